import PyProof.Rows.All
import Wide.All
import OpenK.AllK
import Wide.FinOn
import HandS.ForMost
import HandS.Defaults
import HandS.Style
import HandS.Conv
import HandS.TupAny
import HandS.IsInst
import HandS.Deep
import HandS.SortRule
import HandS.SortInts
import HandS.SetFor
import HandS.Strs
import HandS.DictComp
import HandS.Evl
import KE.KStateDown
import HandS.Head0
import HandS.Head1
import HandS.Head2
import HandS.HeadEnd
import HandS.HeadHook1
import HandS.HeadHook2
import PySem.Challenge.RW_unpartedrows_k11_whole_tree_or_paper
set_option Elab.async false
set_option linter.all false
set_option maxRecDepth 100000
set_option maxHeartbeats 4000000

/-! If no three things avoid one another along the sets, the things have an order in which every set stands together. -/
namespace UR

theorem exists_max {α : Type} (P : α → Prop) (m : α → Nat) (N : Nat) (hb : ∀ a, P a → m a ≤ N) : ∀ (k : Nat) (a : α), P a → N - m a ≤ k → ∃ b, P b ∧ ∀ c, P c → m c ≤ m b := by
  intro k
  induction k with
  | zero =>
    intro a ha hk
    exact ⟨a, ha, fun c hc => by have := hb c hc; have := hb a ha; omega⟩
  | succ k ih =>
    intro a ha hk
    by_cases h : ∃ c, P c ∧ m a < m c
    · obtain ⟨c, hc, hlt⟩ := h
      exact ih c hc (by have := hb c hc; omega)
    · exact ⟨a, ha, fun c hc => by
        have : ¬ m a < m c := fun q => h ⟨c, hc, q⟩
        omega⟩

theorem filter_len_le {α : Type} (p q : α → Bool) : ∀ (V : List α), (∀ x ∈ V, p x = true → q x = true) → (V.filter p).length ≤ (V.filter q).length
  | [], _ => Nat.le_refl _
  | a :: V, h => by
    have ih := filter_len_le p q V (fun x hx => h x (List.mem_cons_of_mem _ hx))
    have ha := h a List.mem_cons_self
    rw [List.filter_cons, List.filter_cons]
    cases hp : p a <;> cases hq : q a <;> simp_all
    omega

theorem filter_len_lt {α : Type} (p q : α → Bool) : ∀ (V : List α), (∀ x ∈ V, p x = true → q x = true) → (∃ x ∈ V, q x = true ∧ p x = false) → (V.filter p).length < (V.filter q).length
  | [], _, ⟨x, hx, _⟩ => by cases hx
  | a :: V, h, ⟨x, hx, hqx, hpx⟩ => by
    have ha := h a List.mem_cons_self
    rcases List.mem_cons.mp hx with rfl | hx'
    · have ih := filter_len_le p q V (fun x hx => h x (List.mem_cons_of_mem _ hx))
      rw [List.filter_cons, List.filter_cons, hpx, hqx]
      simp
      omega
    · have ih := filter_len_lt p q V (fun x hx => h x (List.mem_cons_of_mem _ hx)) ⟨x, hx', hqx, hpx⟩
      rw [List.filter_cons, List.filter_cons]
      cases hp : p a <;> cases hq : q a <;> simp_all <;> omega

/-- a total preorder on a list has a rank -/
theorem rank_of (V : List Nat) (le : Nat → Nat → Prop) (tot : ∀ x ∈ V, ∀ y ∈ V, le x y ∨ le y x)
    (tr : ∀ x ∈ V, ∀ y ∈ V, ∀ w ∈ V, le x y → le y w → le x w) : ∃ A : Nat → Nat, ∀ x ∈ V, ∀ y ∈ V, (A x ≤ A y ↔ le x y) := by
  classical
  refine ⟨fun x => (V.filter (fun w => !decide (le x w))).length, fun x hx y hy => ⟨fun h => ?_, fun h => ?_⟩⟩
  · refine Classical.byContradiction fun hn => ?_
    have hyx : le y x := (tot x hx y hy).resolve_left hn
    have hyy : le y y := (tot y hy y hy).elim id id
    have : (V.filter (fun w => !decide (le y w))).length < (V.filter (fun w => !decide (le x w))).length := by
      refine filter_len_lt _ _ V (fun w hw q => ?_) ⟨y, hy, by simp [hn], by simp [hyy]⟩
      simp only [Bool.not_eq_true', decide_eq_false_iff_not] at q ⊢
      exact fun z => q (tr y hy x hx w hw hyx z)
    dsimp only at h
    omega
  · refine filter_len_le _ _ V (fun w hw q => ?_)
    simp only [Bool.not_eq_true', decide_eq_false_iff_not] at q ⊢
    exact fun z => q (tr x hx y hy w hw h z)

theorem bound_of (B : Nat → Nat) : ∀ V : List Nat, ∃ N, ∀ x ∈ V, B x < N
  | [] => ⟨0, fun _ h => by cases h⟩
  | a :: V => by
    obtain ⟨N, h⟩ := bound_of B V
    refine ⟨N + B a + 1, fun x hx => ?_⟩
    rcases List.mem_cons.mp hx with rfl | hx
    · omega
    · have := h x hx; omega

/-- first by A, then by B -/
theorem lex_of (V : List Nat) (A B : Nat → Nat) : ∃ g : Nat → Nat, ∀ x ∈ V, ∀ y ∈ V, (g x < g y ↔ (A x < A y ∨ (A x = A y ∧ B x < B y))) := by
  obtain ⟨N, hN⟩ := bound_of B V
  refine ⟨fun x => A x * N + B x, fun x hx y hy => ?_⟩
  have h1 := hN x hx
  have h2 := hN y hy
  dsimp only
  rcases Nat.lt_trichotomy (A x) (A y) with h | h | h
  · have : (A x + 1) * N ≤ A y * N := Nat.mul_le_mul_right N h
    rw [Nat.succ_mul] at this
    omega
  · rw [h]; omega
  · have : (A y + 1) * N ≤ A x * N := Nat.mul_le_mul_right N h
    rw [Nat.succ_mul] at this
    omega

theorem flip_of (V : List Nat) (f : Nat → Nat) : ∃ g : Nat → Nat, ∀ x ∈ V, ∀ y ∈ V, (g x < g y ↔ f y < f x) := by
  obtain ⟨N, hN⟩ := bound_of f V
  refine ⟨fun x => N - f x, fun x hx y hy => ?_⟩
  have h1 := hN x hx
  have h2 := hN y hy
  dsimp only
  omega

/-- y is reached from x by sets that leave z out, within V -/
inductive Link (V : List Nat) (E : List (List Nat)) (z x : Nat) : Nat → Prop
  | refl : Link V E z x x
  | step {y w : Nat} {S : List Nat} : Link V E z x y → S ∈ E → z ∉ S → y ∈ S → w ∈ S → w ∈ V → Link V E z x w

def ATfree (V : List Nat) (E : List (List Nat)) : Prop :=
  ∀ a ∈ V, ∀ b ∈ V, ∀ c ∈ V, a ≠ b → a ≠ c → b ≠ c → ¬ (Link V E c a b ∧ Link V E b a c ∧ Link V E a b c)

def Ordered (V : List Nat) (E : List (List Nat)) (f : Nat → Nat) : Prop :=
  (∀ x ∈ V, ∀ y ∈ V, f x = f y → x = y) ∧ ∀ S ∈ E, ∀ x ∈ V, ∀ y ∈ V, ∀ w ∈ V, f x < f y → f y < f w → x ∈ S → w ∈ S → y ∈ S

theorem Link.mono {V W : List Nat} {E : List (List Nat)} (h : ∀ x ∈ V, x ∈ W) {z x y : Nat} (l : Link V E z x y) : Link W E z x y := by
  induction l with
  | refl => exact .refl
  | step _ hS hz hy hw hV ih => exact .step ih hS hz hy hw (h _ hV)

theorem ATfree.mono {V W : List Nat} {E : List (List Nat)} (h : ∀ x ∈ V, x ∈ W) (hf : ATfree W E) : ATfree V E :=
  fun a ha b hb c hc h1 h2 h3 ⟨l1, l2, l3⟩ => hf a (h a ha) b (h b hb) c (h c hc) h1 h2 h3 ⟨l1.mono h, l2.mono h, l3.mono h⟩

theorem Link.trans {V : List Nat} {E : List (List Nat)} {z x y w : Nat} (l : Link V E z x y) (m : Link V E z y w) : Link V E z x w := by
  induction m with
  | refl => exact l
  | step _ hS hz hy hw hV ih => exact .step ih hS hz hy hw hV

theorem Link.symm {V : List Nat} {E : List (List Nat)} {z x y : Nat} (hx : x ∈ V) (l : Link V E z x y) : Link V E z y x ∧ y ∈ V := by
  induction l with
  | refl => exact ⟨.refl, hx⟩
  | step _ hS hz hy hw hV ih => exact ⟨Link.trans (.step .refl hS hz hw hy ih.2) ih.1, hV⟩

theorem link_or {V : List Nat} {E : List (List Nat)} {x r w y : Nat} (hy : y ∈ V) (l : Link V E x r w) : Link V E y r w ∨ Link V E x r y := by
  induction l with
  | refl => exact .inl .refl
  | @step u w S m hS hz hu hw hV ih =>
    rcases ih with ih | ih
    · by_cases q : y ∈ S
      · exact .inr (.step m hS hz hu q hy)
      · exact .inl (.step ih hS q hu hw hV)
    · exact .inr ih

theorem link_self {V : List Nat} {E : List (List Nat)} {r w : Nat} (l : Link V E r r w) : w = r := by
  induction l with
  | refl => rfl
  | step m hS hz hu hw hV ih => subst ih; exact absurd hu hz

theorem link_ne {V : List Nat} {E : List (List Nat)} {z x y : Nat} (hx : x ≠ z) (l : Link V E z x y) : y ≠ z := by
  cases l with
  | refl => exact hx
  | step m hS hz hu hw hV => exact fun h => hz (h ▸ hw)

/-- one class of things, with all things behind it: its own order -/
theorem class_order {V : List Nat} {E : List (List Nat)} {A : Nat → Nat} {r k : Nat}
    (ih : ∀ W : List Nat, W.length < V.length → (∀ x ∈ W, x ∈ V) → ∃ f, Ordered W E f)
    (hr : r ∈ V) (hrk : A r < k)
    (lt : ∀ x ∈ V, ∀ y ∈ V, A x < A y → Link V E y r x)
    (C2 : ∀ S ∈ E, ∀ x ∈ V, ∀ y ∈ V, ∀ w ∈ V, A x < A y → A y ≤ A w → x ∈ S → w ∈ S → y ∈ S) :
    ∃ f : Nat → Nat, (∀ x ∈ V, ∀ y ∈ V, A x = k → A y = k → f x = f y → x = y) ∧
      (∀ S ∈ E, ∀ x ∈ V, ∀ y ∈ V, ∀ w ∈ V, A x = k → A y = k → A w = k → f x < f y → f y < f w → x ∈ S → w ∈ S → y ∈ S) ∧
      (∀ S ∈ E, ∀ x ∈ V, ∀ y ∈ V, ∀ w ∈ V, A x = k → A y = k → k < A w → f x < f y → x ∈ S → w ∈ S → y ∈ S) := by
  by_cases hz : ∃ z, (z ∈ V ∧ k < A z)
  · -- the first thing behind
    obtain ⟨N, hN⟩ := bound_of A V
    obtain ⟨z0, hz0⟩ := hz
    obtain ⟨z, ⟨hzV, hkz⟩, hmin⟩ := exists_max (fun z => z ∈ V ∧ k < A z) (fun z => N - A z) N (fun _ _ => Nat.sub_le _ _) N z0 hz0 (Nat.sub_le _ _)
    have hmin' : ∀ c ∈ V, k < A c → A z ≤ A c := fun c hc hk => by
      have q1 : N - A c ≤ N - A z := hmin c ⟨hc, hk⟩
      have q2 := hN c hc
      have q3 := hN z hzV
      omega
    have memW : ∀ x, x ∈ V.filter (fun x => decide (A x = k) || decide (x = z)) ↔ x ∈ V ∧ (A x = k ∨ x = z) := fun x => by
      rw [List.mem_filter]; simp
    obtain ⟨f, hinj, hconv⟩ := ih (V.filter (fun x => decide (A x = k) || decide (x = z))) (by
      rw [List.length_filter_lt_length_iff_exists]
      refine ⟨r, hr, ?_⟩
      have h1 : A r ≠ k := by omega
      have h2 : r ≠ z := fun h => by subst h; omega
      simp [h1, h2]) (fun x hx => ((memW x).mp hx).1)
    have zW := (memW z).mpr ⟨hzV, .inr rfl⟩
    -- a set that holds the class and leaves z out
    have reach : ∀ w, Link V E z r w → (A w < k) ∨ ∃ S ∈ E, z ∉ S ∧ ∀ m ∈ V, A m = k → m ∈ S := by
      intro w l
      have hv := fun u (m : Link V E z r u) => (m.symm hr).2
      induction l with
      | refl => exact .inl hrk
      | @step y w S m hS hzS hy hw hV ih2 =>
        rcases ih2 with h | h
        · by_cases q : A w < k
          · exact .inl q
          · exact .inr ⟨S, hS, hzS, fun m' hm' hk' => C2 S hS y (hv y m) m' hm' w hV (by omega) (by omega) hy hw⟩
        · exact .inr h
    by_cases hne : ∃ m, m ∈ V ∧ A m = k
    · obtain ⟨m0, hm0, hk0⟩ := hne
      obtain ⟨T, hT, hzT, hMT⟩ := (reach m0 (lt m0 hm0 z hzV (by omega))).resolve_left (by omega)
      -- z stands at an end
      have side : ∃ g : Nat → Nat, Ordered (V.filter (fun x => decide (A x = k) || decide (x = z))) E g ∧ ∀ m ∈ V, A m = k → g m < g z := by
        have hne0 : f m0 ≠ f z := fun h => by
          have := hinj m0 ((memW m0).mpr ⟨hm0, .inl hk0⟩) z zW h
          subst this; omega
        have nobet : ∀ m ∈ V, A m = k → ∀ m' ∈ V, A m' = k → ¬ (f m < f z ∧ f z < f m') := fun m hm hk m' hm' hk' ⟨h1, h2⟩ =>
          hzT (hconv T hT m ((memW m).mpr ⟨hm, .inl hk⟩) z zW m' ((memW m').mpr ⟨hm', .inl hk'⟩) h1 h2 (hMT m hm hk) (hMT m' hm' hk'))
        have ne : ∀ m ∈ V, A m = k → f m ≠ f z := fun m hm hk h => by
          have := hinj m ((memW m).mpr ⟨hm, .inl hk⟩) z zW h
          subst this; omega
        by_cases hlt : f m0 < f z
        · refine ⟨f, ⟨hinj, hconv⟩, fun m hm hk => ?_⟩
          have h1 := nobet m0 hm0 hk0 m hm hk
          have h2 := ne m hm hk
          omega
        · obtain ⟨g, hg⟩ := flip_of (V.filter (fun x => decide (A x = k) || decide (x = z))) f
          refine ⟨g, ⟨fun x hx y hy h => hinj x hx y hy ?_, fun S hS x hx y hy w hw h1 h2 hxS hwS => ?_⟩, fun m hm hk => ?_⟩
          · have h1 := hg x hx y hy
            have h2 := hg y hy x hx
            omega
          · exact hconv S hS w hw y hy x hx ((hg y hy w hw).mp h2) ((hg x hx y hy).mp h1) hwS hxS
          · have h1 := nobet m hm hk m0 hm0 hk0
            have h2 := ne m hm hk
            rw [hg m ((memW m).mpr ⟨hm, .inl hk⟩) z zW]
            omega
      obtain ⟨g, ⟨ginj, gconv⟩, gz⟩ := side
      refine ⟨g, fun x hx y hy kx ky h => ginj x ((memW x).mpr ⟨hx, .inl kx⟩) y ((memW y).mpr ⟨hy, .inl ky⟩) h,
        fun S hS x hx y hy w hw kx ky kw h1 h2 hxS hwS => gconv S hS x ((memW x).mpr ⟨hx, .inl kx⟩) y ((memW y).mpr ⟨hy, .inl ky⟩) w ((memW w).mpr ⟨hw, .inl kw⟩) h1 h2 hxS hwS,
        fun S hS x hx y hy w hw kx ky kw h1 hxS hwS => ?_⟩
      have hzS : z ∈ S := C2 S hS x hx z hzV w hw (by omega) (hmin' w hw kw) hxS hwS
      exact gconv S hS x ((memW x).mpr ⟨hx, .inl kx⟩) y ((memW y).mpr ⟨hy, .inl ky⟩) z zW h1 (gz y hy ky) hxS hzS
    · exact ⟨fun _ => 0, fun x hx _ _ kx => absurd ⟨x, hx, kx⟩ hne, fun S _ x hx _ _ _ _ kx => absurd ⟨x, hx, kx⟩ hne, fun S _ x hx _ _ _ _ kx => absurd ⟨x, hx, kx⟩ hne⟩
  · have memW : ∀ x, x ∈ V.filter (fun x => decide (A x = k)) ↔ x ∈ V ∧ A x = k := fun x => by
      rw [List.mem_filter]; simp
    obtain ⟨f, hinj, hconv⟩ := ih (V.filter (fun x => decide (A x = k))) (by
      rw [List.length_filter_lt_length_iff_exists]
      refine ⟨r, hr, ?_⟩
      have h1 : A r ≠ k := by omega
      simp [h1]) (fun x hx => ((memW x).mp hx).1)
    exact ⟨f, fun x hx y hy kx ky h => hinj x ((memW x).mpr ⟨hx, kx⟩) y ((memW y).mpr ⟨hy, ky⟩) h,
      fun S hS x hx y hy w hw kx ky kw h1 h2 hxS hwS => hconv S hS x ((memW x).mpr ⟨hx, kx⟩) y ((memW y).mpr ⟨hy, ky⟩) w ((memW w).mpr ⟨hw, kw⟩) h1 h2 hxS hwS,
      fun S hS x hx y hy w hw kx ky kw => absurd ⟨w, hw, kw⟩ hz⟩

/-- a thing whose leaving out parts nothing -/
theorem case_end {V : List Nat} {E : List (List Nat)} {r : Nat} (hf : ATfree V E)
    (ih : ∀ W : List Nat, W.length < V.length → (∀ x ∈ W, x ∈ V) → ∃ f, Ordered W E f)
    (hr : r ∈ V) (hc : ∀ x ∈ V, ∀ y ∈ V, x ≠ r → y ≠ r → Link V E r x y) : ∃ f, Ordered V E f := by
  obtain ⟨A, hA⟩ := rank_of V (fun x y => x = y ∨ ¬ Link V E x r y) (fun x hx y hy => by
      by_cases e : x = y
      · exact .inl (.inl e)
      by_cases er : x = r
      · subst er
        exact .inl (.inr fun l => e (link_self l).symm)
      by_cases er' : y = r
      · subst er'
        exact .inr (.inr fun l => e (link_self l))
      · by_cases l1 : Link V E x r y
        · exact .inr (.inr fun l2 => hf r hr x hx y hy (Ne.symm er) (Ne.symm er') e ⟨l2, l1, hc x hx y hy er er'⟩)
        · exact .inl (.inr l1))
    (fun x hx y hy w hw h1 h2 => by
      rcases h1 with rfl | h1
      · exact h2
      rcases h2 with rfl | h2
      · exact .inr h1
      · exact .inr fun l => (link_or hy l).elim h2 h1)
  have lt : ∀ x ∈ V, ∀ y ∈ V, A x < A y → Link V E y r x := fun x hx y hy h => by
    have q : ¬ (y = x ∨ ¬ Link V E y r x) := fun q => by
      have := (hA y hy x hx).mpr q
      omega
    exact Classical.byContradiction fun z => q (.inr z)
  have C2 : ∀ S ∈ E, ∀ x ∈ V, ∀ y ∈ V, ∀ w ∈ V, A x < A y → A y ≤ A w → x ∈ S → w ∈ S → y ∈ S := fun S hS x hx y hy w hw h1 h2 hxS hwS => by
    refine Classical.byContradiction fun hn => ?_
    rcases (hA y hy w hw).mp h2 with rfl | q
    · exact hn hwS
    · exact q (.step (lt x hx y hy h1) hS hn hxS hwS hw)
  have hr0 : ∀ x ∈ V, x ≠ r → A r < A x := fun x hx h => by
    refine Classical.byContradiction fun hn => ?_
    rcases (hA x hx r hr).mp (by omega) with q | q
    · exact h q
    · exact q .refl
  have each : ∀ k, ∃ f : Nat → Nat, (∀ x ∈ V, ∀ y ∈ V, A x = k → A y = k → f x = f y → x = y) ∧
      (∀ S ∈ E, ∀ x ∈ V, ∀ y ∈ V, ∀ w ∈ V, A x = k → A y = k → A w = k → f x < f y → f y < f w → x ∈ S → w ∈ S → y ∈ S) ∧
      (∀ S ∈ E, ∀ x ∈ V, ∀ y ∈ V, ∀ w ∈ V, A x = k → A y = k → k < A w → f x < f y → x ∈ S → w ∈ S → y ∈ S) := fun k => by
    by_cases hk : A r < k
    · exact class_order ih hr hk lt C2
    · have only : ∀ x ∈ V, A x = k → x = r := fun x hx h => by
        refine Classical.byContradiction fun hn => ?_
        have := hr0 x hx hn
        omega
      refine ⟨fun _ => 0, fun x hx y hy kx ky _ => (only x hx kx).trans (only y hy ky).symm, fun S _ x _ y _ w _ _ _ _ h => ?_, fun S _ x _ y _ w _ _ _ _ h => ?_⟩ <;> exact absurd h (Nat.lt_irrefl _)
  obtain ⟨F, hF⟩ : ∃ F : Nat → Nat → Nat, ∀ k, (∀ x ∈ V, ∀ y ∈ V, A x = k → A y = k → F k x = F k y → x = y) ∧
      (∀ S ∈ E, ∀ x ∈ V, ∀ y ∈ V, ∀ w ∈ V, A x = k → A y = k → A w = k → F k x < F k y → F k y < F k w → x ∈ S → w ∈ S → y ∈ S) ∧
      (∀ S ∈ E, ∀ x ∈ V, ∀ y ∈ V, ∀ w ∈ V, A x = k → A y = k → k < A w → F k x < F k y → x ∈ S → w ∈ S → y ∈ S) :=
    ⟨fun k => (each k).choose, fun k => (each k).choose_spec⟩
  obtain ⟨g, hg⟩ := lex_of V A (fun x => F (A x) x)
  refine ⟨g, fun x hx y hy h => ?_, fun S hS x hx y hy w hw h1 h2 hxS hwS => ?_⟩
  · have q1 := hg x hx y hy
    have q2 := hg y hy x hx
    have e : A x = A y := by omega
    have e2 : F (A x) x = F (A x) y := by
      rw [← e] at q1 q2
      omega
    exact (hF (A x)).1 x hx y hy rfl e.symm e2
  · rcases (hg x hx y hy).mp h1 with a | ⟨a, b⟩
    · have q := (hg y hy w hw).mp h2
      exact C2 S hS x hx y hy w hw a (by omega) hxS hwS
    · rcases (hg y hy w hw).mp h2 with c | ⟨c, d⟩
      · rw [← a] at b
        exact (hF (A x)).2.2 S hS x hx y hy w hw rfl a.symm (by omega) b hxS hwS
      · rw [← a] at b
        rw [← c, ← a] at d
        exact (hF (A x)).2.1 S hS x hx y hy w hw rfl a.symm (by omega) b d hxS hwS

/-- a thing with things that no set parts from it -/
theorem case_module {V : List Nat} {E : List (List Nat)} {r x0 o : Nat} (K : Nat → Prop)
    (ih : ∀ W : List Nat, W.length < V.length → (∀ x ∈ W, x ∈ V) → ∃ f, Ordered W E f)
    (hr : r ∈ V) (hx0 : x0 ∈ V) (ho : o ∈ V) (kr : ¬ K r) (kx0 : K x0) (ko : ¬ K o) (hor : o ≠ r)
    (hM : ∀ S ∈ E, ∀ k ∈ V, K k → k ∈ S → ∀ m ∈ V, ¬ K m → m ∈ S → ∀ y ∈ V, ¬ K y → y ∈ S) : ∃ f, Ordered V E f := by
  classical
  have mem1 : ∀ x, x ∈ V.filter (fun x => decide (K x) || decide (x = r)) ↔ x ∈ V ∧ (K x ∨ x = r) := fun x => by
    rw [List.mem_filter]; simp
  have mem2 : ∀ x, x ∈ V.filter (fun x => !decide (K x)) ↔ x ∈ V ∧ ¬ K x := fun x => by
    rw [List.mem_filter]; simp
  obtain ⟨f1, inj1, conv1⟩ := ih (V.filter (fun x => decide (K x) || decide (x = r))) (by
    rw [List.length_filter_lt_length_iff_exists]
    exact ⟨o, ho, by simp [ko, hor]⟩) (fun x hx => ((mem1 x).mp hx).1)
  obtain ⟨f2, inj2, conv2⟩ := ih (V.filter (fun x => !decide (K x))) (by
    rw [List.length_filter_lt_length_iff_exists]
    exact ⟨x0, hx0, by simp [kx0]⟩) (fun x hx => ((mem2 x).mp hx).1)
  have r1 := (mem1 r).mpr ⟨hr, .inr rfl⟩
  have k1 : ∀ x ∈ V, K x → x ∈ V.filter (fun x => decide (K x) || decide (x = r)) := fun x hx k => (mem1 x).mpr ⟨hx, .inl k⟩
  have m2 : ∀ x ∈ V, ¬ K x → x ∈ V.filter (fun x => !decide (K x)) := fun x hx k => (mem2 x).mpr ⟨hx, k⟩
  obtain ⟨g, hg⟩ := lex_of V (fun x => if K x then f1 x else f1 r) (fun x => if K x then 0 else f2 x)
  have nr : ∀ x ∈ V, K x → f1 x ≠ f1 r := fun x hx k h => kr ((inj1 x (k1 x hx k) r r1 h) ▸ k)
  refine ⟨g, fun x hx y hy h => ?_, fun S hS x hx y hy w hw h1 h2 hxS hwS => ?_⟩
  · have q1 := hg x hx y hy
    have q2 := hg y hy x hx
    by_cases kx : K x <;> by_cases ky : K y <;> simp only [kx, ky, if_true, if_false, Nat.lt_irrefl, and_false, or_false, true_and, false_or] at q1 q2
    · exact inj1 x (k1 x hx kx) y (k1 y hy ky) (by omega)
    · exact absurd (show f1 x = f1 r by omega) (nr x hx kx)
    · exact absurd (show f1 y = f1 r by omega) (nr y hy ky)
    · exact inj2 x (m2 x hx kx) y (m2 y hy ky) (by omega)
  · have q1 := (hg x hx y hy).mp h1
    have q2 := (hg y hy w hw).mp h2
    by_cases kx : K x <;> by_cases ky : K y <;> by_cases kw : K w <;> simp only [kx, ky, kw, if_true, if_false, Nat.lt_irrefl, and_false, or_false, true_and, false_or] at q1 q2
    · exact conv1 S hS x (k1 x hx kx) y (k1 y hy ky) w (k1 w hw kw) q1 q2 hxS hwS
    · have hrS : r ∈ S := hM S hS x hx kx hxS w hw kw hwS r hr kr
      have := nr y hy ky
      exact conv1 S hS x (k1 x hx kx) y (k1 y hy ky) r r1 q1 (by omega) hxS hrS
    · have := nr x hx kx
      have := nr w hw kw
      have hrS : r ∈ S := conv1 S hS x (k1 x hx kx) r r1 w (k1 w hw kw) (by omega) (by omega) hxS hwS
      exact hM S hS x hx kx hxS r hr kr hrS y hy ky
    · exact hM S hS x hx kx hxS w hw kw hwS y hy ky
    · have hrS : r ∈ S := hM S hS w hw kw hwS x hx kx hxS r hr kr
      have := nr y hy ky
      exact conv1 S hS r r1 y (k1 y hy ky) w (k1 w hw kw) (by omega) q2 hrS hwS
    · have := nr y hy ky
      omega
    · exact hM S hS w hw kw hwS x hx kx hxS y hy ky
    · exact conv2 S hS x (m2 x hx kx) y (m2 y hy ky) w (m2 w hw kw) (by omega) (by omega) hxS hwS

theorem ordered_of_ATfree (E : List (List Nat)) : ∀ (n : Nat) (V : List Nat), V.length ≤ n → ATfree V E → ∃ f, Ordered V E f := by
  classical
  intro n
  induction n with
  | zero =>
    intro V hV _
    have : V = [] := List.eq_nil_of_length_eq_zero (by omega)
    subst this
    exact ⟨id, And.intro (fun _ h => absurd h List.not_mem_nil) (fun _ _ _ h => absurd h List.not_mem_nil)⟩
  | succ n ihn =>
    intro V hV hf
    have ih : ∀ W : List Nat, W.length < V.length → (∀ x ∈ W, x ∈ V) → ∃ f, Ordered W E f := fun W hW hs => ihn W (by omega) (hf.mono hs)
    by_cases h2 : ∃ p : Nat × Nat, p.1 ∈ V ∧ p.2 ∈ V ∧ p.2 ≠ p.1
    · obtain ⟨p0, hp0⟩ := h2
      obtain ⟨⟨r, x0⟩, ⟨hr, hx0, hne⟩, hmax⟩ := exists_max (fun p : Nat × Nat => p.1 ∈ V ∧ p.2 ∈ V ∧ p.2 ≠ p.1)
        (fun p => (V.filter (fun y => decide (Link V E p.1 p.2 y))).length) V.length (fun _ _ => List.length_filter_le _ _) V.length p0 hp0 (Nat.sub_le _ _)
      dsimp only at hr hx0 hne hmax
      by_cases hall : ∀ y ∈ V, y ≠ r → Link V E r x0 y
      · exact case_end hf ih hr (fun x hx y hy hxr hyr => ((hall x hx hxr).symm hx0).1.trans (hall y hy hyr))
      · obtain ⟨o, ho⟩ := Classical.not_forall.mp hall
        have hoV : o ∈ V := Classical.byContradiction fun z => ho fun q => absurd q z
        have hor : o ≠ r := fun z => ho fun _ q => absurd z q
        have hol : ¬ Link V E r x0 o := fun z => ho fun _ _ => z
        refine case_module (fun y => Link V E r x0 y) ih hr hx0 hoV (fun l => link_ne hne l rfl) .refl hol hor ?_
        intro S hS k hk kk hkS m hm km hmS y hy ky
        have hrS : r ∈ S := Classical.byContradiction fun z => km (.step kk hS z hkS hmS hm)
        by_cases hyr : y = r
        · subst hyr; exact hrS
        refine Classical.byContradiction fun hyS => ?_
        have up : ∀ w, Link V E r x0 w → Link V E y x0 w := fun w l => by
          induction l with
          | refl => exact .refl
          | step m' hS' hz hu hw hV' ih' =>
            exact .step ih' hS' (fun q => ky (.step m' hS' hz hu q hy)) hu hw hV'
        have hxy : x0 ≠ y := fun e => ky (e ▸ .refl)
        have hq : (V.filter (fun w => decide (Link V E r x0 w))).length < (V.filter (fun w => decide (Link V E y x0 w))).length := by
          refine filter_len_lt _ _ V (fun w _ q => ?_) ⟨r, hr, ?_, ?_⟩
          · exact decide_eq_true (up w (of_decide_eq_true q))
          · exact decide_eq_true (.step (up k kk) hS hyS hkS hrS hr)
          · exact decide_eq_false fun l => link_ne hne l rfl
        have := hmax (y, x0) ⟨hy, hx0, hxy⟩
        dsimp only at this
        omega
    · refine ⟨id, fun x hx y hy h => h, fun S hS x hx y hy w hw h1 h2' hxS hwS => ?_⟩
      have : y = x := Classical.byContradiction fun q => h2 ⟨(x, y), hx, hy, q⟩
      subst this
      exact hxS



inductive Tree where
  | thing (t : Nat)
  | any (ps : List Tree)
  | row (ps : List Tree)

instance : Inhabited Tree := ⟨.thing 0⟩

mutual
def Tree.listed : Tree → List Nat
  | .thing t => [t]
  | .any ps => listedL ps
  | .row ps => listedL ps
def listedL : List Tree → List Nat
  | [] => []
  | p :: ps => p.listed ++ listedL ps
end

mutual
def Tree.depth : Tree → Nat
  | .thing _ => 0
  | .any ps => depthL ps + 1
  | .row ps => depthL ps + 1
def depthL : List Tree → Nat
  | [] => 0
  | p :: ps => max p.depth (depthL ps)
end

mutual
def Tree.Wf : Tree → Prop
  | .thing _ => True
  | .any ps => 2 ≤ ps.length ∧ WfL ps
  | .row ps => 3 ≤ ps.length ∧ WfL ps
def WfL : List Tree → Prop
  | [] => True
  | p :: ps => p.Wf ∧ WfL ps
end

/-- no thing of V stands between two of l without being in l -/
def conv (f : Nat → Int) (V l : List Nat) : Prop := ∀ x ∈ l, ∀ y ∈ V, ∀ z ∈ l, f x < f y → f y < f z → y ∈ l
def lts (f : Nat → Int) (p q : Tree) : Prop := ∀ x ∈ p.listed, ∀ y ∈ q.listed, f x < f y
def asc (f : Nat → Int) (ps : List Tree) : Prop := ps.Pairwise (lts f)

mutual
def Fit (f : Nat → Int) (V : List Nat) : Tree → Prop
  | .thing _ => True
  | .any ps => (∀ p ∈ ps, conv f V p.listed) ∧ FitL f V ps
  | .row ps => (asc f ps ∨ asc f ps.reverse) ∧ FitL f V ps
def FitL (f : Nat → Int) (V : List Nat) : List Tree → Prop
  | [] => True
  | p :: ps => Fit f V p ∧ FitL f V ps
end

theorem mem_listedL {x : Nat} : ∀ {ps : List Tree}, x ∈ listedL ps ↔ ∃ p ∈ ps, x ∈ p.listed
  | [] => by simp [listedL]
  | p :: ps => by simp [listedL, mem_listedL (ps := ps)]
theorem wfL_iff : ∀ {ps : List Tree}, WfL ps ↔ ∀ p ∈ ps, p.Wf
  | [] => by simp [WfL]
  | p :: ps => by simp [WfL, wfL_iff (ps := ps)]
theorem fitL_iff {f : Nat → Int} {V : List Nat} : ∀ {ps : List Tree}, FitL f V ps ↔ ∀ p ∈ ps, Fit f V p
  | [] => by simp [FitL]
  | p :: ps => by simp [FitL, fitL_iff (ps := ps)]
theorem depthL_le {k : Nat} : ∀ {ps : List Tree}, depthL ps ≤ k ↔ ∀ p ∈ ps, p.depth ≤ k
  | [] => by simp [depthL]
  | p :: ps => by
    have := depthL_le (k := k) (ps := ps)
    simp only [depthL, List.mem_cons, forall_eq_or_imp, ← this]
    omega
theorem listedL_append : ∀ (ps qs : List Tree), listedL (ps ++ qs) = listedL ps ++ listedL qs
  | [], _ => rfl
  | p :: ps, qs => by simp [listedL, listedL_append ps qs]
theorem listedL_perm {ps qs : List Tree} (h : ps.Perm qs) : (listedL ps).Perm (listedL qs) := by
  induction h with
  | nil => exact .refl _
  | cons x _ ih => exact ih.append_left _
  | swap x y l =>
    simp only [listedL, ← List.append_assoc]
    exact (List.perm_append_comm).append_right _
  | trans _ _ ih1 ih2 => exact ih1.trans ih2

mutual
theorem listed_pos : ∀ (T : Tree), T.Wf → 0 < T.listed.length
  | .thing t, _ => by simp [Tree.listed]
  | .any ps, h => by
    have := listedL_len ps h.2
    have := h.1
    simp only [Tree.listed]; omega
  | .row ps, h => by
    have := listedL_len ps h.2
    have := h.1
    simp only [Tree.listed]; omega
theorem listedL_len : ∀ (ps : List Tree), WfL ps → ps.length ≤ (listedL ps).length
  | [], _ => by simp [listedL]
  | p :: ps, h => by
    have := listed_pos p h.1
    have := listedL_len ps h.2
    simp only [listedL, List.length_cons, List.length_append]; omega
end

mutual
theorem depth_lt : ∀ (T : Tree), T.Wf → T.depth < T.listed.length
  | .thing t, _ => by simp [Tree.listed, Tree.depth]
  | .any ps, h => by
    have h1 := depthL_len ps h.2
    have h2 := h.1
    simp only [Tree.listed, Tree.depth]
    cases ps with
    | nil => simp at h2
    | cons a r => simp only [List.length_cons] at h1 h2; omega
  | .row ps, h => by
    have h1 := depthL_len ps h.2
    have h2 := h.1
    simp only [Tree.listed, Tree.depth]
    cases ps with
    | nil => simp at h2
    | cons a r => simp only [List.length_cons] at h1 h2; omega
theorem depthL_len : ∀ (ps : List Tree), WfL ps → depthL ps + ps.length ≤ (listedL ps).length
  | [], _ => by simp [listedL, depthL]
  | p :: ps, h => by
    have h1 := depth_lt p h.1
    have h2 := depthL_len ps h.2
    have h3 := listed_pos p h.1
    have h4 := listedL_len ps h.2
    simp only [listedL, depthL, List.length_cons, List.length_append]; omega
end

/-! ### the program's functions -/

def rank (S : List Nat) (T : Tree) : Nat :=
  if (T.listed.filter (fun x => decide (x ∈ S))).length = 0 then 0
  else if (T.listed.filter (fun x => decide (x ∈ S))).length = T.listed.length then 2 else 1

def withShare (S : List Nat) (ps : List Tree) (k : Nat) : List Tree := ps.filter (fun p => decide (rank S p = k))

def makeAny (ps : List Tree) : Tree := match ps with
  | [p] => p
  | ps => .any ps
def makeRow (ps : List Tree) : Tree := if ps.length < 3 then makeAny ps else .row ps

/-- [make_any(ps)] unless ps is empty -/
def bundle (ps : List Tree) : List Tree := if ps = [] then [] else [makeAny ps]

def splitAny (sp : Tree → Option (List Tree)) (S : List Nat) (ps : List Tree) : Option (List Tree) :=
  match withShare S ps 1 with
  | [] => some (bundle (withShare S ps 0) ++ bundle (withShare S ps 2))
  | [m] => match sp m with
    | none => none
    | some inner => some (bundle (withShare S ps 0) ++ inner ++ bundle (withShare S ps 2))
  | _ :: _ :: _ => none

/-- no lesser one behind a greater one, and at most one 1 -/
def ascends (rs : List Nat) : Prop := rs.Pairwise (· ≤ ·) ∧ rs.count 1 < 2
instance (rs : List Nat) : Decidable (ascends rs) := by unfold ascends; exact inferInstance

def piece (sp : Tree → Option (List Tree)) (S : List Nat) (p : Tree) : Option (List Tree) := if rank S p = 1 then sp p else some [p]

def splice (sp : Tree → Option (List Tree)) (S : List Nat) : List Tree → Option (List Tree)
  | [] => some []
  | p :: ps => match piece sp S p with
    | none => none
    | some l => match splice sp S ps with
      | none => none
      | some r => some (l ++ r)

def toldRow (S : List Nat) (ps : List Tree) : List Tree := if ascends (ps.map (rank S)) then ps else ps.reverse
def splitRow (sp : Tree → Option (List Tree)) (S : List Nat) (ps : List Tree) : Option (List Tree) :=
  if ascends ((toldRow S ps).map (rank S)) then splice sp S (toldRow S ps) else none

def split (S : List Nat) : Nat → Tree → Option (List Tree)
  | 0, _ => none
  | _ + 1, .thing _ => none
  | k + 1, .any ps => splitAny (split S k) S ps
  | k + 1, .row ps => splitRow (split S k) S ps

def joinedAny (sp : Tree → Option (List Tree)) (S : List Nat) (ps : List Tree) : Option Tree :=
  match withShare S ps 1 with
  | [] => some (makeAny (withShare S ps 0 ++ [makeAny (withShare S ps 2)]))
  | [m] => match sp m with
    | none => none
    | some l => some (makeAny (withShare S ps 0 ++ [makeRow (l ++ bundle (withShare S ps 2))]))
  | [m, m'] => match sp m, sp m' with
    | some l, some l' => some (makeAny (withShare S ps 0 ++ [makeRow (l ++ bundle (withShare S ps 2) ++ l'.reverse)]))
    | _, _ => none
  | _ :: _ :: _ :: _ => none

def touched (S : List Nat) (ps : List Tree) : List Nat := (List.range ps.length).filter (fun i => decide (rank S (ps.getD i default) ≠ 0))

def rowMid (sp : Tree → Option (List Tree)) (S : List Nat) : List Tree → Option (List Tree)
  | [] => some []
  | [b] => (piece sp S b).map List.reverse
  | a :: b :: r => match piece sp S a with
    | none => none
    | some l => match rowMid sp S (b :: r) with
      | none => none
      | some m => some (l ++ m)

def joinedRow (sp : Tree → Option (List Tree)) (S : List Nat) (ps : List Tree) : Option Tree :=
  let first := (touched S ps).headD 0
  let last := (touched S ps).getLastD 0
  if ((ps.drop (first + 1)).take (last - (first + 1))).all (fun p => decide (rank S p = 2)) then
    match rowMid sp S ((ps.drop first).take (last + 1 - first)) with
    | none => none
    | some m => some (makeRow (ps.take first ++ m ++ ps.drop (last + 1)))
  else none

def joined (S : List Nat) : Nat → Tree → Option Tree
  | _, .thing t => some (.thing t)
  | 0, _ => none
  | k + 1, .any ps =>
    if rank S (.any ps) = 2 then some (.any ps) else
    match touched S ps with
    | [t] => match joined S k (ps.getD t default) with
      | none => none
      | some q => some (.any (ps.set t q))
    | _ => joinedAny (split S k) S ps
  | k + 1, .row ps =>
    if rank S (.row ps) = 2 then some (.row ps) else
    match touched S ps with
    | [t] => match joined S k (ps.getD t default) with
      | none => none
      | some q => some (.row (ps.set t q))
    | _ => joinedRow (split S k) S ps

/-! ### shares -/

theorem rank_zero {S : List Nat} {T : Tree} : rank S T = 0 ↔ ∀ x ∈ T.listed, x ∉ S := by
  have h : (T.listed.filter (fun x => decide (x ∈ S))).length = 0 ↔ ∀ x ∈ T.listed, x ∉ S := by
    rw [List.length_eq_zero_iff, List.filter_eq_nil_iff]
    simp
  unfold rank
  rw [← h]
  split
  · rename_i e
    exact ⟨fun _ => e, fun _ => rfl⟩
  · rename_i e
    split <;> exact ⟨fun q => by omega, fun q => absurd q e⟩

theorem filter_all {l : List Nat} {q : Nat → Bool} : (l.filter q).length = l.length ↔ ∀ x ∈ l, q x = true := by
  exact List.length_filter_eq_length_iff

theorem rank_two {S : List Nat} {T : Tree} (hp : 0 < T.listed.length) : rank S T = 2 ↔ ∀ x ∈ T.listed, x ∈ S := by
  have h := filter_all (l := T.listed) (q := fun x => decide (x ∈ S))
  simp only [decide_eq_true_eq] at h
  rw [← h]
  unfold rank
  split
  · rename_i e
    rw [e]
    omega
  · split
    · rename_i h2
      exact ⟨fun _ => h2, fun _ => rfl⟩
    · rename_i h2
      exact ⟨fun e => by omega, fun e => absurd e h2⟩

theorem rank_cases (S : List Nat) (T : Tree) : rank S T = 0 ∨ rank S T = 1 ∨ rank S T = 2 := by
  unfold rank
  split
  · exact .inl rfl
  · split
    · exact .inr (.inr rfl)
    · exact .inr (.inl rfl)

theorem rank_ne {S : List Nat} {T : Tree} (h : rank S T ≠ 0) : ∃ x ∈ T.listed, x ∈ S := by
  refine Classical.byContradiction fun q => h (rank_zero.mpr fun x hx hS => q ⟨x, hx, hS⟩)

theorem rank_pos {S : List Nat} {T : Tree} {x : Nat} (hx : x ∈ T.listed) (hS : x ∈ S) : rank S T ≠ 0 := fun q => rank_zero.mp q x hx hS

theorem rank_one_out {S : List Nat} {T : Tree} (hp : 0 < T.listed.length) (h : rank S T = 1) : ∃ x ∈ T.listed, x ∉ S := by
  refine Classical.byContradiction fun q => ?_
  have : rank S T = 2 := (rank_two hp).mpr fun x hx => Classical.byContradiction fun hS => q ⟨x, hx, hS⟩
  omega

theorem rank_of_out {S : List Nat} {T : Tree} (hp : 0 < T.listed.length) {x : Nat} (hx : x ∈ T.listed) (hS : x ∉ S) : rank S T ≠ 2 := fun q => hS ((rank_two hp).mp q x hx)

theorem mem_share {S : List Nat} {ps : List Tree} {k : Nat} {p : Tree} : p ∈ withShare S ps k ↔ p ∈ ps ∧ rank S p = k := by
  simp [withShare]

theorem share_perm (S : List Nat) : ∀ ps : List Tree, (withShare S ps 0 ++ withShare S ps 1 ++ withShare S ps 2).Perm ps
  | [] => .refl _
  | p :: ps => by
    have ih := share_perm S ps
    rcases rank_cases S p with h | h | h
    · have e0 : withShare S (p :: ps) 0 = p :: withShare S ps 0 := by simp [withShare, h]
      have e1 : withShare S (p :: ps) 1 = withShare S ps 1 := by simp [withShare, h]
      have e2 : withShare S (p :: ps) 2 = withShare S ps 2 := by simp [withShare, h]
      rw [e0, e1, e2]
      exact ih.cons p
    · have e0 : withShare S (p :: ps) 0 = withShare S ps 0 := by simp [withShare, h]
      have e1 : withShare S (p :: ps) 1 = p :: withShare S ps 1 := by simp [withShare, h]
      have e2 : withShare S (p :: ps) 2 = withShare S ps 2 := by simp [withShare, h]
      rw [e0, e1, e2]
      refine List.Perm.trans ?_ (ih.cons p)
      rw [List.append_assoc, List.append_assoc]
      exact List.perm_middle
    · have e0 : withShare S (p :: ps) 0 = withShare S ps 0 := by simp [withShare, h]
      have e1 : withShare S (p :: ps) 1 = withShare S ps 1 := by simp [withShare, h]
      have e2 : withShare S (p :: ps) 2 = p :: withShare S ps 2 := by simp [withShare, h]
      rw [e0, e1, e2]
      exact List.perm_middle.trans (ih.cons p)

theorem listed_makeAny (ps : List Tree) : (makeAny ps).listed = listedL ps := by
  unfold makeAny
  split
  · simp [listedL]
  · simp [Tree.listed]
theorem listed_makeRow (ps : List Tree) : (makeRow ps).listed = listedL ps := by
  unfold makeRow
  split
  · exact listed_makeAny ps
  · simp [Tree.listed]
theorem listedL_bundle (ps : List Tree) : listedL (bundle ps) = listedL ps := by
  unfold bundle
  split
  · simp_all
  · simp [listedL, listed_makeAny]
theorem wf_makeAny {ps : List Tree} (h0 : ps ≠ []) (h : WfL ps) : (makeAny ps).Wf := by
  unfold makeAny
  split
  · exact h.1
  · rename_i hne
    refine ⟨?_, h⟩
    match ps, h0, hne with
    | [p], _, hne => exact absurd rfl (hne p)
    | _ :: _ :: _, _, _ => simp
theorem wf_makeRow {ps : List Tree} (h0 : ps ≠ []) (h : WfL ps) : (makeRow ps).Wf := by
  unfold makeRow
  split
  · exact wf_makeAny h0 h
  · exact ⟨by omega, h⟩
theorem wfL_bundle {ps : List Tree} (h : WfL ps) : WfL (bundle ps) := by
  unfold bundle
  split
  · trivial
  · rename_i h0
    exact ⟨wf_makeAny h0 h, trivial⟩
theorem wfL_append {ps qs : List Tree} : WfL (ps ++ qs) ↔ WfL ps ∧ WfL qs := by
  simp only [wfL_iff, List.mem_append]
  exact ⟨fun h => ⟨fun p hp => h p (.inl hp), fun p hp => h p (.inr hp)⟩, fun h p hp => hp.elim (h.1 p) (h.2 p)⟩
theorem wfL_share {S : List Nat} {ps : List Tree} {k : Nat} (h : WfL ps) : WfL (withShare S ps k) :=
  wfL_iff.mpr fun p hp => wfL_iff.mp h p (mem_share.mp hp).1

theorem listedL_sublist {ps qs : List Tree} (h : ps.Sublist qs) : (listedL ps).Sublist (listedL qs) := by
  induction h with
  | slnil => exact .refl _
  | cons a _ ih => exact ih.trans (List.sublist_append_right _ _)
  | cons_cons a _ ih => exact (List.Sublist.refl _).append ih

/-- a thing stands in one part alone -/
theorem listed_unique : ∀ {ps : List Tree}, (listedL ps).Nodup → ∀ {p q : Tree} {x : Nat}, p ∈ ps → q ∈ ps → x ∈ p.listed → x ∈ q.listed → p = q
  | [], _, _, _, _, hp, _, _, _ => by cases hp
  | a :: ps, h, p, q, x, hp, hq, hx, hy => by
    rw [listedL, List.nodup_append] at h
    rcases List.mem_cons.mp hp with e1 | hp2
    · rcases List.mem_cons.mp hq with e2 | hq2
      · exact e1.trans e2.symm
      · exact absurd rfl (h.2.2 x (e1 ▸ hx) x (mem_listedL.mpr ⟨q, hq2, hy⟩))
    · rcases List.mem_cons.mp hq with e2 | hq2
      · exact absurd rfl (h.2.2 x (e2 ▸ hy) x (mem_listedL.mpr ⟨p, hp2, hx⟩))
      · exact listed_unique h.2.1 hp2 hq2 hx hy

theorem nodup_part {ps : List Tree} (h : (listedL ps).Nodup) {p : Tree} (hp : p ∈ ps) : p.listed.Nodup := by
  have := listedL_sublist (List.singleton_sublist.mpr hp)
  simp only [listedL, List.append_nil] at this
  exact this.nodup h

/-- two parts at two places have no thing in common -/
theorem two_disjoint {p q : Tree} {r ps : List Tree} (h : (listedL ps).Nodup) (hs : (p :: q :: r).Sublist ps) : ∀ x, x ∈ p.listed → x ∈ q.listed → False := by
  have := (listedL_sublist hs).nodup h
  simp only [listedL] at this
  rw [List.nodup_append] at this
  exact fun x hx hy => this.2.2 x hx x (List.mem_append_left _ hy) rfl

/-! ### orders -/

def neg (f : Nat → Int) : Nat → Int := fun x => - f x
theorem neg_neg (f : Nat → Int) : neg (neg f) = f := by funext x; simp [neg]
def Inj (f : Nat → Int) (V : List Nat) : Prop := ∀ x ∈ V, ∀ y ∈ V, f x = f y → x = y
theorem inj_neg {f : Nat → Int} {V : List Nat} (h : Inj f V) : Inj (neg f) V := fun x hx y hy e => h x hx y hy (by simp only [neg] at e; omega)
theorem conv_neg' {f : Nat → Int} {V l : List Nat} (h : conv f V l) : conv (neg f) V l := fun x hx y hy z hz h1 h2 =>
  h z hz y hy x hx (by simp only [neg] at h2; omega) (by simp only [neg] at h1; omega)
theorem conv_neg {f : Nat → Int} {V l : List Nat} : conv (neg f) V l ↔ conv f V l := ⟨fun h => by have := conv_neg' h; rwa [neg_neg] at this, conv_neg'⟩
theorem lts_neg {f : Nat → Int} {p q : Tree} : lts (neg f) p q ↔ lts f q p := by
  simp only [lts, neg]
  exact ⟨fun h x hx y hy => by have := h y hy x hx; omega, fun h x hx y hy => by have := h y hy x hx; omega⟩
theorem asc_neg {f : Nat → Int} {ps : List Tree} : asc (neg f) ps ↔ asc f ps.reverse := by
  unfold asc
  rw [List.pairwise_reverse]
  constructor <;> intro h <;> refine h.imp ?_ <;> intro a b hab
  · exact lts_neg.mp hab
  · exact lts_neg.mpr hab
theorem asc_rev_neg {f : Nat → Int} {ps : List Tree} : asc (neg f) ps.reverse ↔ asc f ps := by
  rw [asc_neg, List.reverse_reverse]
mutual
theorem fit_neg' {f : Nat → Int} {V : List Nat} : ∀ T : Tree, Fit f V T → Fit (neg f) V T
  | .thing _, _ => trivial
  | .any ps, h => ⟨fun p hp => conv_neg.mpr (h.1 p hp), fitL_neg' ps h.2⟩
  | .row ps, h => ⟨h.1.elim (fun a => .inr (asc_rev_neg.mpr a)) (fun a => .inl (asc_neg.mpr a)), fitL_neg' ps h.2⟩
theorem fitL_neg' {f : Nat → Int} {V : List Nat} : ∀ ps : List Tree, FitL f V ps → FitL (neg f) V ps
  | [], _ => trivial
  | p :: ps, h => ⟨fit_neg' p h.1, fitL_neg' ps h.2⟩
end
theorem fit_neg {f : Nat → Int} {V : List Nat} {T : Tree} : Fit (neg f) V T ↔ Fit f V T := ⟨fun h => by have := fit_neg' T h; rwa [neg_neg] at this, fit_neg' T⟩
theorem fitL_neg {f : Nat → Int} {V : List Nat} {ps : List Tree} : FitL (neg f) V ps ↔ FitL f V ps := ⟨fun h => by have := fitL_neg' ps h; rwa [neg_neg] at this, fitL_neg' ps⟩

theorem asc_append {f : Nat → Int} {a b : List Tree} : asc f (a ++ b) ↔ asc f a ∧ asc f b ∧ ∀ x ∈ listedL a, ∀ y ∈ listedL b, f x < f y := by
  unfold asc
  rw [List.pairwise_append]
  refine and_congr_right fun _ => and_congr_right fun _ => ⟨fun h x hx y hy => ?_, fun h p hp q hq x hx y hy => h x (mem_listedL.mpr ⟨p, hp, hx⟩) y (mem_listedL.mpr ⟨q, hq, hy⟩)⟩
  obtain ⟨p, hp, hx⟩ := mem_listedL.mp hx
  obtain ⟨q, hq, hy⟩ := mem_listedL.mp hy
  exact h p hp q hq x hx y hy
theorem asc_nil {f : Nat → Int} : asc f [] := List.Pairwise.nil
theorem asc_one {f : Nat → Int} {p : Tree} : asc f [p] := List.pairwise_singleton _ _
theorem asc_bundle {f : Nat → Int} {ps : List Tree} : asc f (bundle ps) := by
  unfold bundle
  split
  · exact asc_nil
  · exact asc_one

theorem conv_congr {f : Nat → Int} {V l m : List Nat} (h : ∀ x, x ∈ l ↔ x ∈ m) : conv f V l ↔ conv f V m :=
  ⟨fun c x hx y hy z hz a b => (h y).mp (c x ((h x).mpr hx) y hy z ((h z).mpr hz) a b), fun c x hx y hy z hz a b => (h y).mpr (c x ((h x).mp hx) y hy z ((h z).mp hz) a b)⟩

theorem conv_mid {f : Nat → Int} {V : List Nat} {A B C : List Tree} (ha : asc f (A ++ B ++ C)) (hc : conv f V (listedL (A ++ B ++ C))) : conv f V (listedL B) := by
  intro x hx y hy z hz h1 h2
  simp only [listedL_append] at hc
  have h := hc x (List.mem_append_left _ (List.mem_append_right _ hx)) y hy z (List.mem_append_left _ (List.mem_append_right _ hz)) h1 h2
  rw [asc_append, asc_append] at ha
  obtain ⟨⟨_, _, hAB⟩, _, hABC⟩ := ha
  rw [List.mem_append, List.mem_append] at h
  rcases h with (h | h) | h
  · have := hAB y h x hx; omega
  · exact h
  · have := hABC z (by rw [listedL_append]; exact List.mem_append_right _ hz) y h; omega

theorem conv_part {f : Nat → Int} {V : List Nat} {ps : List Tree} (ha : asc f ps) (hc : conv f V (listedL ps)) {p : Tree} (hp : p ∈ ps) : conv f V p.listed := by
  obtain ⟨A, C, rfl⟩ := List.append_of_mem hp
  have e : A ++ p :: C = A ++ [p] ++ C := by simp
  rw [e] at ha hc
  have := conv_mid ha hc
  simpa [listedL] using this

/-- parts whose things stand together, and no thing in both: all of the one stand ahead of all of the other -/
theorem lts_of_lt {f : Nat → Int} {V : List Nat} {p q : Tree} (hi : Inj f V) (hpV : ∀ x ∈ p.listed, x ∈ V) (hqV : ∀ x ∈ q.listed, x ∈ V)
    (cp : conv f V p.listed) (cq : conv f V q.listed) (d : ∀ x, x ∈ p.listed → x ∈ q.listed → False) {x y : Nat} (hx : x ∈ p.listed) (hy : y ∈ q.listed) (h : f x < f y) : lts f p q := by
  have h1 : ∀ x' ∈ p.listed, f x' < f y := fun x' hx' => by
    refine Classical.byContradiction fun n => ?_
    have ne : f x' ≠ f y := fun e => d y (hi x' (hpV x' hx') y (hqV y hy) e ▸ hx') hy
    exact d y (cp x hx y (hqV y hy) x' hx' h (by omega)) hy
  intro x' hx' y' hy'
  refine Classical.byContradiction fun n => ?_
  have ne : f x' ≠ f y' := fun e => d y' (hi x' (hpV x' hx') y' (hqV y' hy') e ▸ hx') hy'
  exact d x' hx' (cq y' hy' x' (hpV x' hx') y hy (by omega) (h1 x' hx'))

theorem lts_total {f : Nat → Int} {V : List Nat} {p q : Tree} (hi : Inj f V) (hpV : ∀ x ∈ p.listed, x ∈ V) (hqV : ∀ x ∈ q.listed, x ∈ V)
    (cp : conv f V p.listed) (cq : conv f V q.listed) (d : ∀ x, x ∈ p.listed → x ∈ q.listed → False) (p0 : 0 < p.listed.length) (q0 : 0 < q.listed.length) : lts f p q ∨ lts f q p := by
  obtain ⟨x, hx⟩ := List.exists_mem_of_length_pos p0
  obtain ⟨y, hy⟩ := List.exists_mem_of_length_pos q0
  have ne : f x ≠ f y := fun e => d y (hi x (hpV x hx) y (hqV y hy) e ▸ hx) hy
  by_cases h : f x < f y
  · exact .inl (lts_of_lt hi hpV hqV cp cq d hx hy h)
  · exact .inr (lts_of_lt hi hqV hpV cq cp (fun x a b => d x b a) hy hx (by omega))

theorem fit_makeAny {f : Nat → Int} {V : List Nat} {ps : List Tree} (hc : conv f V (listedL ps)) : Fit f V (makeAny ps) ↔ ∀ p ∈ ps, conv f V p.listed ∧ Fit f V p := by
  unfold makeAny
  split
  · simp only [listedL, List.append_nil] at hc
    simp [hc]
  · show ((∀ p : Tree, p ∈ _ → conv f V p.listed) ∧ FitL f V _) ↔ _
    rw [fitL_iff]
    exact ⟨fun h p hp => ⟨h.1 p hp, h.2 p hp⟩, fun h => ⟨fun p hp => (h p hp).1, fun p hp => (h p hp).2⟩⟩

theorem fitL_bundle {f : Nat → Int} {V : List Nat} {ps : List Tree} (hc : conv f V (listedL ps)) : FitL f V (bundle ps) ↔ ∀ p ∈ ps, conv f V p.listed ∧ Fit f V p := by
  unfold bundle
  split
  · simp_all [FitL]
  · simp only [FitL, and_true]
    exact fit_makeAny hc
theorem fitL_append {f : Nat → Int} {V : List Nat} {a b : List Tree} : FitL f V (a ++ b) ↔ FitL f V a ∧ FitL f V b := by
  simp only [fitL_iff, List.mem_append]
  exact ⟨fun h => ⟨fun p hp => h p (.inl hp), fun p hp => h p (.inr hp)⟩, fun h p hp => hp.elim (h.1 p) (h.2 p)⟩
theorem fitL_perm {f : Nat → Int} {V : List Nat} {a b : List Tree} (h : ∀ p, p ∈ a ↔ p ∈ b) : FitL f V a ↔ FitL f V b := by
  simp only [fitL_iff, h]

def Upper (f : Nat → Int) (S : List Nat) (T : Tree) : Prop := ∀ x ∈ T.listed, ∀ y ∈ T.listed, x ∈ S → f x < f y → y ∈ S

/-! ### what split does -/

def Struct (L : List Tree) (T : Tree) : Prop := 2 ≤ L.length ∧ (listedL L).Perm T.listed ∧ WfL L

theorem splice_struct {sp : Tree → Option (List Tree)} {S : List Nat} : ∀ {ps L : List Tree}, WfL ps →
    (∀ p ∈ ps, ∀ l, rank S p = 1 → sp p = some l → Struct l p) → splice sp S ps = some L → ps.length ≤ L.length ∧ (listedL L).Perm (listedL ps) ∧ WfL L
  | [], L, _, _, h => by
    simp only [splice, Option.some.injEq] at h
    subst h
    exact ⟨Nat.le_refl _, .refl _, trivial⟩
  | p :: ps, L, hw, hs, h => by
    simp only [splice] at h
    split at h
    · cases h
    · rename_i l hl
      split at h
      · cases h
      · rename_i r hr
        simp only [Option.some.injEq] at h
        subst h
        obtain ⟨h1, h2, h3⟩ := splice_struct hw.2 (fun q hq => hs q (List.mem_cons_of_mem _ hq)) hr
        have hp : 1 ≤ l.length ∧ (listedL l).Perm p.listed ∧ WfL l := by
          unfold piece at hl
          split at hl
          · rename_i hk
            have := hs p List.mem_cons_self l hk hl
            exact ⟨by have := this.1; omega, this.2⟩
          · simp only [Option.some.injEq] at hl
            subst hl
            simp [listedL, WfL, hw.1]
        refine ⟨?_, ?_, wfL_append.mpr ⟨hp.2.2, h3⟩⟩
        · rw [List.length_append, List.length_cons]; omega
        · rw [listedL_append, listedL]
          exact hp.2.1.append h2

theorem rank_listed {S : List Nat} {T U : Tree} (h : T.listed = U.listed) : rank S T = rank S U := by
  unfold rank
  rw [h]

theorem splitAny_struct {sp : Tree → Option (List Tree)} {S : List Nat} {ps L : List Tree} (hw : WfL ps) (hr : rank S (.any ps) = 1)
    (hs : ∀ p ∈ ps, ∀ l, rank S p = 1 → sp p = some l → Struct l p) (h : splitAny sp S ps = some L) : Struct L (.any ps) := by
  have hperm := listedL_perm (share_perm S ps)
  rw [listedL_append, listedL_append] at hperm
  unfold splitAny at h
  split at h
  · rename_i h1
    simp only [Option.some.injEq] at h
    subst h
    rw [h1] at hperm
    simp only [listedL, List.append_nil] at hperm
    have ne : ∀ k, k ≠ 1 → k ≤ 2 → withShare S ps k ≠ [] := fun k h1' h2' e => by
      have lw : 0 < (Tree.any ps).listed.length := by
        obtain ⟨x, hx, _⟩ := rank_ne (S := S) (T := .any ps) (by omega)
        exact List.length_pos_of_mem hx
      match k, h1', h2', e with
      | 0, _, _, e =>
        obtain ⟨x, hx, hn⟩ := rank_one_out lw hr
        obtain ⟨p, hp, hxp⟩ := mem_listedL.mp hx
        rcases rank_cases S p with q | q | q
        · have := mem_share.mpr ⟨hp, q⟩; rw [e] at this; cases this
        · have := mem_share.mpr ⟨hp, q⟩; rw [h1] at this; cases this
        · exact hn ((rank_two (List.length_pos_of_mem hxp)).mp q x hxp)
      | 2, _, _, e =>
        obtain ⟨x, hx, hn⟩ := rank_ne (S := S) (T := .any ps) (by omega)
        obtain ⟨p, hp, hxp⟩ := mem_listedL.mp hx
        rcases rank_cases S p with q | q | q
        · exact rank_pos hxp hn q
        · have := mem_share.mpr ⟨hp, q⟩; rw [h1] at this; cases this
        · have := mem_share.mpr ⟨hp, q⟩; rw [e] at this; cases this
    refine ⟨?_, ?_, wfL_append.mpr ⟨wfL_bundle (wfL_share hw), wfL_bundle (wfL_share hw)⟩⟩
    · simp [bundle, ne 0 (by omega) (by omega), ne 2 (by omega) (by omega)]
    · rw [listedL_append, listedL_bundle, listedL_bundle]
      exact hperm
  · rename_i m h1
    have hm : m ∈ ps ∧ rank S m = 1 := mem_share.mp (h1 ▸ List.mem_singleton.mpr rfl)
    split at h
    · cases h
    · rename_i inner hi
      simp only [Option.some.injEq] at h
      subst h
      obtain ⟨a1, a2, a3⟩ := hs m hm.1 inner hm.2 hi
      rw [h1] at hperm
      simp only [listedL, List.append_nil] at hperm
      refine ⟨?_, ?_, wfL_append.mpr ⟨wfL_append.mpr ⟨wfL_bundle (wfL_share hw), a3⟩, wfL_bundle (wfL_share hw)⟩⟩
      · simp only [List.length_append]; omega
      · rw [listedL_append, listedL_append, listedL_bundle, listedL_bundle]
        exact (((List.Perm.refl _).append a2).append (.refl _)).trans hperm
  · cases h

theorem toldRow_perm (S : List Nat) (ps : List Tree) : (toldRow S ps).Perm ps := by
  unfold toldRow
  split
  · exact .refl _
  · exact List.reverse_perm ps

theorem wfL_perm {ps qs : List Tree} (h : ps.Perm qs) (w : WfL qs) : WfL ps := wfL_iff.mpr fun p hp => wfL_iff.mp w p (h.mem_iff.mp hp)

theorem splitRow_struct {sp : Tree → Option (List Tree)} {S : List Nat} {ps L : List Tree} (h3 : 3 ≤ ps.length) (hw : WfL ps)
    (hs : ∀ p ∈ ps, ∀ l, rank S p = 1 → sp p = some l → Struct l p) (h : splitRow sp S ps = some L) : Struct L (.row ps) := by
  unfold splitRow at h
  split at h
  · have hp := toldRow_perm S ps
    obtain ⟨a1, a2, a3⟩ := splice_struct (wfL_perm hp hw) (fun p hq => hs p (hp.mem_iff.mp hq)) h
    exact ⟨by have := hp.length_eq; omega, a2.trans (listedL_perm hp), a3⟩
  · cases h

theorem split_struct {S : List Nat} : ∀ {k : Nat} {T : Tree} {L : List Tree}, T.Wf → rank S T = 1 → split S k T = some L → Struct L T
  | 0, _, _, _, _, h => by simp [split] at h
  | _ + 1, .thing _, _, _, _, h => by simp [split] at h
  | _ + 1, .any ps, _, hw, hr, h => splitAny_struct hw.2 hr (fun p hp _ hk hl => split_struct (wfL_iff.mp hw.2 p hp) hk hl) (by simpa [split] using h)
  | _ + 1, .row ps, _, hw, hr, h => splitRow_struct hw.1 hw.2 (fun p hp _ hk hl => split_struct (wfL_iff.mp hw.2 p hp) hk hl) (by simpa [split] using h)

/-- what split says of an order -/
def SpOk (f : Nat → Int) (V S : List Nat) (sp : Tree → Option (List Tree)) (p : Tree) : Prop :=
  conv f V p.listed → ((∃ l, sp p = some l ∧ asc f l ∧ FitL f V l) ↔ Fit f V p ∧ Upper f S p)

theorem mem_bundle {ps : List Tree} {x : Nat} : x ∈ listedL (bundle ps) ↔ x ∈ listedL ps := by rw [listedL_bundle]

theorem splitAny_fit {f : Nat → Int} {V S : List Nat} {sp : Tree → Option (List Tree)} {ps : List Tree} (hi : Inj f V) (hw : WfL ps) (hn : (listedL ps).Nodup) (hV : ∀ x ∈ listedL ps, x ∈ V)
    (hs : ∀ p ∈ ps, ∀ l, rank S p = 1 → sp p = some l → Struct l p) (hsp : ∀ p ∈ ps, rank S p = 1 → SpOk f V S sp p) (hc : conv f V (listedL ps)) :
    (∃ L, splitAny sp S ps = some L ∧ asc f L ∧ FitL f V L) ↔ Fit f V (.any ps) ∧ Upper f S (.any ps) := by
  have pV : ∀ p ∈ ps, ∀ x ∈ p.listed, x ∈ V := fun p hp x hx => hV x (mem_listedL.mpr ⟨p, hp, hx⟩)
  have p0 : ∀ p ∈ ps, 0 < p.listed.length := fun p hp => listed_pos p (wfL_iff.mp hw p hp)
  have hperm := listedL_perm (share_perm S ps)
  rw [listedL_append, listedL_append] at hperm
  have eIn : ∀ x, x ∈ listedL (withShare S ps 0) ↔ ∃ p ∈ ps, rank S p = 0 ∧ x ∈ p.listed := fun x => by
    simp only [mem_listedL, mem_share, and_assoc]
  have fIn : ∀ x, x ∈ listedL (withShare S ps 2) ↔ ∃ p ∈ ps, rank S p = 2 ∧ x ∈ p.listed := fun x => by
    simp only [mem_listedL, mem_share, and_assoc]
  have e0 : ∀ x, x ∈ listedL (withShare S ps 0) → x ∉ S := fun x hx => by
    obtain ⟨p, _, hr, hx⟩ := (eIn x).mp hx
    exact rank_zero.mp hr x hx
  have f0 : ∀ x, x ∈ listedL (withShare S ps 2) → x ∈ S := fun x hx => by
    obtain ⟨p, hp, hr, hx⟩ := (fIn x).mp hx
    exact (rank_two (p0 p hp)).mp hr x hx
  have eps : ∀ x, x ∈ listedL (withShare S ps 0) → x ∈ listedL ps := fun x hx => hperm.mem_iff.mp (List.mem_append_left _ (List.mem_append_left _ hx))
  have fps : ∀ x, x ∈ listedL (withShare S ps 2) → x ∈ listedL ps := fun x hx => hperm.mem_iff.mp (List.mem_append_right _ hx)
  have all_of : (∀ p ∈ withShare S ps 0, conv f V p.listed ∧ Fit f V p) → (∀ p ∈ withShare S ps 1, conv f V p.listed ∧ Fit f V p) → (∀ p ∈ withShare S ps 2, conv f V p.listed ∧ Fit f V p) → Fit f V (.any ps) := fun a b c => by
    have q : ∀ p ∈ ps, conv f V p.listed ∧ Fit f V p := fun p hp => by
      rcases rank_cases S p with h | h | h
      · exact a p (mem_share.mpr ⟨hp, h⟩)
      · exact b p (mem_share.mpr ⟨hp, h⟩)
      · exact c p (mem_share.mpr ⟨hp, h⟩)
    exact ⟨fun p hp => (q p hp).1, fitL_iff.mpr fun p hp => (q p hp).2⟩
  constructor
  · rintro ⟨L, hL, ha, hF⟩
    unfold splitAny at hL
    split at hL
    · rename_i h1
      simp only [Option.some.injEq] at hL
      subst hL
      rw [h1] at hperm all_of
      simp only [listedL, List.append_nil] at hperm
      have hcL : conv f V (listedL (bundle (withShare S ps 0) ++ bundle (withShare S ps 2))) := (conv_congr fun x => by rw [listedL_append, listedL_bundle, listedL_bundle]; exact hperm.mem_iff).mpr hc
      have cE : conv f V (listedL (withShare S ps 0)) := by
        have := conv_mid (A := []) (C := bundle (withShare S ps 2)) (by simpa using ha) (by simpa using hcL)
        rwa [listedL_bundle] at this
      have cF : conv f V (listedL (withShare S ps 2)) := by
        have := conv_mid (A := bundle (withShare S ps 0)) (C := []) (by simpa using ha) (by simpa using hcL)
        rwa [listedL_bundle] at this
      rw [fitL_append, fitL_bundle cE, fitL_bundle cF] at hF
      refine ⟨all_of hF.1 (fun p h => by cases h) hF.2, fun x hx y hy hxS hlt => ?_⟩
      rw [asc_append, listedL_bundle, listedL_bundle] at ha
      rcases List.mem_append.mp (hperm.mem_iff.mpr hy) with hy | hy
      · rcases List.mem_append.mp (hperm.mem_iff.mpr hx) with hx | hx
        · exact absurd hxS (e0 x hx)
        · have := ha.2.2 y hy x hx; omega
      · exact f0 y hy
    · rename_i m h1
      have hm : m ∈ ps ∧ rank S m = 1 := mem_share.mp (h1 ▸ List.mem_singleton.mpr rfl)
      split at hL
      · cases hL
      · rename_i inner hin
        simp only [Option.some.injEq] at hL
        subst hL
        rw [h1] at hperm all_of
        simp only [listedL, List.append_nil] at hperm
        obtain ⟨_, sp2, _⟩ := hs m hm.1 inner hm.2 hin
        have hcL : conv f V (listedL (bundle (withShare S ps 0) ++ inner ++ bundle (withShare S ps 2))) := (conv_congr fun x => by
          rw [listedL_append, listedL_append, listedL_bundle, listedL_bundle, ← hperm.mem_iff]
          simp only [List.mem_append, sp2.mem_iff]).mpr hc
        have cE : conv f V (listedL (withShare S ps 0)) := by
          have := conv_mid (A := []) (B := bundle (withShare S ps 0)) (C := inner ++ bundle (withShare S ps 2)) (by simpa using ha) (by simpa using hcL)
          rwa [listedL_bundle] at this
        have cF : conv f V (listedL (withShare S ps 2)) := by
          have := conv_mid (A := bundle (withShare S ps 0) ++ inner) (B := bundle (withShare S ps 2)) (C := []) (by simpa using ha) (by simpa using hcL)
          rwa [listedL_bundle] at this
        have cM : conv f V m.listed := (conv_congr fun x => sp2.mem_iff).mp (conv_mid ha hcL)
        rw [fitL_append, fitL_append, fitL_bundle cE, fitL_bundle cF] at hF
        rw [asc_append, asc_append, listedL_append, listedL_bundle, listedL_bundle] at ha
        obtain ⟨⟨_, ai, aEm⟩, _, aF⟩ := ha
        have im := (hsp m hm.1 hm.2 cM).mp ⟨inner, hin, ai, hF.1.2⟩
        refine ⟨all_of hF.1.1 (fun p h => by rw [List.mem_singleton.mp h]; exact ⟨cM, im.1⟩) hF.2, fun x hx y hy hxS hlt => ?_⟩
        rcases List.mem_append.mp (hperm.mem_iff.mpr hy) with hy | hy
        · rcases List.mem_append.mp (hperm.mem_iff.mpr hx) with hx | hx
          · rcases List.mem_append.mp hx with hx | hx
            · exact absurd hxS (e0 x hx)
            · rcases List.mem_append.mp hy with hy | hy
              · have := aEm y hy x (sp2.mem_iff.mpr hx); omega
              · exact im.2 x hx y hy hxS hlt
          · have := aF y (by
              rcases List.mem_append.mp hy with hy | hy
              · exact List.mem_append_left _ hy
              · exact List.mem_append_right _ (sp2.mem_iff.mpr hy)) x hx
            omega
        · exact f0 y hy
    · cases hL
  · rintro ⟨hF, hU⟩
    have hcv : ∀ p ∈ ps, conv f V p.listed := hF.1
    have hft : ∀ p ∈ ps, Fit f V p := fitL_iff.mp hF.2
    -- what is not chosen stands ahead of what is chosen
    have low : ∀ x ∈ listedL ps, ∀ y ∈ listedL ps, x ∉ S → y ∈ S → f x < f y := fun x hx y hy hxS hyS => by
      refine Classical.byContradiction fun n => ?_
      have ne : f y ≠ f x := fun e => hxS (hi y (hV y hy) x (hV x hx) e ▸ hyS)
      exact hxS (hU y hy x hx hyS (by omega))
    have partE : ∀ p ∈ withShare S ps 0, conv f V p.listed ∧ Fit f V p := fun p hp => ⟨hcv p (mem_share.mp hp).1, hft p (mem_share.mp hp).1⟩
    have partF : ∀ p ∈ withShare S ps 2, conv f V p.listed ∧ Fit f V p := fun p hp => ⟨hcv p (mem_share.mp hp).1, hft p (mem_share.mp hp).1⟩
    unfold splitAny
    split
    · rename_i h1
      rw [h1] at hperm
      simp only [listedL, List.append_nil] at hperm
      have ha : asc f (bundle (withShare S ps 0) ++ bundle (withShare S ps 2)) := by
        rw [asc_append, listedL_bundle, listedL_bundle]
        exact ⟨asc_bundle, asc_bundle, fun x hx y hy => low x (eps x hx) y (fps y hy) (e0 x hx) (f0 y hy)⟩
      have hcL : conv f V (listedL (bundle (withShare S ps 0) ++ bundle (withShare S ps 2))) := (conv_congr fun x => by rw [listedL_append, listedL_bundle, listedL_bundle]; exact hperm.mem_iff).mpr hc
      have cE : conv f V (listedL (withShare S ps 0)) := by
        have := conv_mid (A := []) (C := bundle (withShare S ps 2)) (by simpa using ha) (by simpa using hcL)
        rwa [listedL_bundle] at this
      have cF : conv f V (listedL (withShare S ps 2)) := by
        have := conv_mid (A := bundle (withShare S ps 0)) (C := []) (by simpa using ha) (by simpa using hcL)
        rwa [listedL_bundle] at this
      exact ⟨_, rfl, ha, by rw [fitL_append, fitL_bundle cE, fitL_bundle cF]; exact ⟨partE, partF⟩⟩
    · rename_i m h1
      have hm : m ∈ ps ∧ rank S m = 1 := mem_share.mp (h1 ▸ List.mem_singleton.mpr rfl)
      have hmU : Upper f S m := fun x hx y hy => hU x (mem_listedL.mpr ⟨m, hm.1, hx⟩) y (mem_listedL.mpr ⟨m, hm.1, hy⟩)
      obtain ⟨inner, hin, ai, hFi⟩ := (hsp m hm.1 hm.2 (hcv m hm.1)).mpr ⟨hft m hm.1, hmU⟩
      rw [hin]
      rw [h1] at hperm
      simp only [listedL, List.append_nil] at hperm
      obtain ⟨_, sp2, _⟩ := hs m hm.1 inner hm.2 hin
      obtain ⟨b, hb, hbS⟩ := rank_ne (S := S) (T := m) (by omega)
      obtain ⟨a, haM, haS⟩ := rank_one_out (p0 m hm.1) hm.2
      have mps : ∀ x ∈ m.listed, x ∈ listedL ps := fun x hx => mem_listedL.mpr ⟨m, hm.1, hx⟩
      have apart : ∀ x ∈ m.listed, ∀ p ∈ ps, rank S p ≠ 1 → x ∉ p.listed := fun x hx p hp hr hxp => by
        have := listed_unique hn hp hm.1 hxp hx
        subst this
        exact hr hm.2
      have Em : ∀ x ∈ listedL (withShare S ps 0), ∀ y ∈ m.listed, f x < f y := fun x hx y hy => by
        refine Classical.byContradiction fun n => ?_
        obtain ⟨p, hp, hr, hxp⟩ := (eIn x).mp hx
        have xm : x ∉ m.listed := fun q => apart x q p hp (by omega) hxp
        have ne : f y ≠ f x := fun e => xm (hi y (hV y (mps y hy)) x (hV x (eps x hx)) e ▸ hy)
        exact xm (hcv m hm.1 y hy x (hV x (eps x hx)) b hb (by omega) (low x (eps x hx) b (mps b hb) (e0 x hx) hbS))
      have mF : ∀ y ∈ m.listed, ∀ z ∈ listedL (withShare S ps 2), f y < f z := fun y hy z hz => by
        refine Classical.byContradiction fun n => ?_
        obtain ⟨p, hp, hr, hzp⟩ := (fIn z).mp hz
        have zm : z ∉ m.listed := fun q => apart z q p hp (by omega) hzp
        have ne : f z ≠ f y := fun e => zm (hi z (hV z (fps z hz)) y (hV y (mps y hy)) e ▸ hy)
        exact zm (hcv m hm.1 a haM z (hV z (fps z hz)) y hy (low a (mps a haM) z (fps z hz) haS (f0 z hz)) (by omega))
      have ha : asc f (bundle (withShare S ps 0) ++ inner ++ bundle (withShare S ps 2)) := by
        rw [asc_append, asc_append, listedL_append, listedL_bundle, listedL_bundle]
        refine ⟨⟨asc_bundle, ai, fun x hx y hy => Em x hx y (sp2.mem_iff.mp hy)⟩, asc_bundle, fun x hx y hy => ?_⟩
        rcases List.mem_append.mp hx with hx | hx
        · exact low x (eps x hx) y (fps y hy) (e0 x hx) (f0 y hy)
        · exact mF x (sp2.mem_iff.mp hx) y hy
      have hcL : conv f V (listedL (bundle (withShare S ps 0) ++ inner ++ bundle (withShare S ps 2))) := (conv_congr fun x => by
        rw [listedL_append, listedL_append, listedL_bundle, listedL_bundle, ← hperm.mem_iff]
        simp only [List.mem_append, sp2.mem_iff]).mpr hc
      have cE : conv f V (listedL (withShare S ps 0)) := by
        have := conv_mid (A := []) (B := bundle (withShare S ps 0)) (C := inner ++ bundle (withShare S ps 2)) (by simpa using ha) (by simpa using hcL)
        rwa [listedL_bundle] at this
      have cF : conv f V (listedL (withShare S ps 2)) := by
        have := conv_mid (A := bundle (withShare S ps 0) ++ inner) (B := bundle (withShare S ps 2)) (C := []) (by simpa using ha) (by simpa using hcL)
        rwa [listedL_bundle] at this
      exact ⟨_, rfl, ha, by rw [fitL_append, fitL_append, fitL_bundle cE, fitL_bundle cF]; exact ⟨⟨partE, hFi⟩, partF⟩⟩
    · rename_i m m' r h1
      exfalso
      have hsub : (m :: m' :: r).Sublist ps := h1 ▸ List.filter_sublist
      have hm : m ∈ ps ∧ rank S m = 1 := mem_share.mp (h1 ▸ List.mem_cons_self)
      have hm' : m' ∈ ps ∧ rank S m' = 1 := mem_share.mp (h1 ▸ List.mem_cons_of_mem _ List.mem_cons_self)
      have d := two_disjoint hn hsub
      obtain ⟨b, hb, hbS⟩ := rank_ne (S := S) (T := m) (by omega)
      obtain ⟨a, haM, haS⟩ := rank_one_out (p0 m hm.1) hm.2
      obtain ⟨b', hb', hbS'⟩ := rank_ne (S := S) (T := m') (by omega)
      obtain ⟨a', haM', haS'⟩ := rank_one_out (p0 m' hm'.1) hm'.2
      have mps : ∀ x ∈ m.listed, x ∈ listedL ps := fun x hx => mem_listedL.mpr ⟨m, hm.1, hx⟩
      have mps' : ∀ x ∈ m'.listed, x ∈ listedL ps := fun x hx => mem_listedL.mpr ⟨m', hm'.1, hx⟩
      have q1 := low a (mps a haM) b (mps b hb) haS hbS
      have q2 := low a (mps a haM) b' (mps' b' hb') haS hbS'
      have q3 := low a' (mps' a' haM') b (mps b hb) haS' hbS
      have q4 := low a' (mps' a' haM') b' (mps' b' hb') haS' hbS'
      have ne : f a ≠ f a' := fun e => d a haM (hi a (hV a (mps a haM)) a' (hV a' (mps' a' haM')) e ▸ haM')
      by_cases q : f a < f a'
      · exact d a' (hcv m hm.1 a haM a' (hV a' (mps' a' haM')) b hb q q3) haM'
      · exact d a haM (hcv m' hm'.1 a' haM' a (hV a (mps a haM)) b' hb' (by omega) q2)

theorem piece_struct {sp : Tree → Option (List Tree)} {S : List Nat} {p : Tree} {l : List Tree} (hw : p.Wf)
    (hs : ∀ l, rank S p = 1 → sp p = some l → Struct l p) (h : piece sp S p = some l) : 1 ≤ l.length ∧ (listedL l).Perm p.listed ∧ WfL l := by
  unfold piece at h
  split at h
  · rename_i hk
    have := hs l hk h
    exact ⟨by have := this.1; omega, this.2⟩
  · simp only [Option.some.injEq] at h
    subst h
    simp [listedL, WfL, hw]

theorem splice_fit {f : Nat → Int} {V S : List Nat} {sp : Tree → Option (List Tree)} : ∀ {ps : List Tree}, WfL ps →
    (∀ p ∈ ps, ∀ l, rank S p = 1 → sp p = some l → Struct l p) →
    ((∃ L, splice sp S ps = some L ∧ asc f L ∧ FitL f V L) ↔ asc f ps ∧ ∀ p ∈ ps, ∃ l, piece sp S p = some l ∧ asc f l ∧ FitL f V l)
  | [], _, _ => by simp [splice, asc, FitL]
  | p :: ps, hw, hs => by
    have ih := splice_fit (f := f) (V := V) (S := S) (sp := sp) hw.2 (fun q hq => hs q (List.mem_cons_of_mem _ hq))
    have mem : ∀ {l}, piece sp S p = some l → ∀ x, x ∈ listedL l ↔ x ∈ p.listed := fun h x => (piece_struct hw.1 (hs p List.mem_cons_self) h).2.1.mem_iff
    have memL : ∀ {r}, splice sp S ps = some r → ∀ x, x ∈ listedL r ↔ x ∈ listedL ps := fun h x => (splice_struct hw.2 (fun q hq => hs q (List.mem_cons_of_mem _ hq)) h).2.1.mem_iff
    constructor
    · rintro ⟨L, hL, ha, hF⟩
      simp only [splice] at hL
      split at hL
      · cases hL
      · rename_i l hl
        split at hL
        · cases hL
        · rename_i r hr
          simp only [Option.some.injEq] at hL
          subst hL
          rw [asc_append] at ha
          rw [fitL_append] at hF
          have q := ih.mp ⟨r, hr, ha.2.1, hF.2⟩
          refine ⟨?_, fun p' hp' => ?_⟩
          · refine List.pairwise_cons.mpr ⟨fun p' hp' x hx y hy => ?_, q.1⟩
            exact ha.2.2 x ((mem hl x).mpr hx) y ((memL hr y).mpr (mem_listedL.mpr ⟨p', hp', hy⟩))
          · rcases List.mem_cons.mp hp' with rfl | hp'
            · exact ⟨l, hl, ha.1, hF.1⟩
            · exact q.2 p' hp'
    · rintro ⟨ha, hp⟩
      obtain ⟨l, hl, al, fl⟩ := hp p List.mem_cons_self
      obtain ⟨h1, h2⟩ := List.pairwise_cons.mp ha
      obtain ⟨r, hr, ar, fr⟩ := ih.mpr ⟨h2, fun q hq => hp q (List.mem_cons_of_mem _ hq)⟩
      refine ⟨l ++ r, by simp only [splice, hl, hr], asc_append.mpr ⟨al, ar, fun x hx y hy => ?_⟩, fitL_append.mpr ⟨fl, fr⟩⟩
      obtain ⟨q, hq, hy⟩ := mem_listedL.mp ((memL hr y).mp hy)
      exact h1 q hq x ((mem hl x).mp hx) y hy

theorem asc_lt {f : Nat → Int} : ∀ {ps : List Tree}, asc f ps → ∀ i j (hi : i < ps.length) (hj : j < ps.length), i < j → lts f ps[i] ps[j] := fun ha i j hi hj h => by
  exact List.pairwise_iff_getElem.mp ha i j hi hj h

theorem count_two {l : List Nat} {i j : Nat} (hi : i < l.length) (hj : j < l.length) (hij : i < j) (h1 : l[i] = 1) (h2 : l[j] = 1) : 2 ≤ l.count 1 := by
  have hs : [1, 1].Sublist l := by
    have e1 : l = l.take j ++ l.drop j := (List.take_append_drop j l).symm
    rw [e1]
    have a : [1].Sublist (l.take j) := List.singleton_sublist.mpr (List.mem_iff_getElem.mpr ⟨i, by rw [List.length_take]; omega, by rw [List.getElem_take]; exact h1⟩)
    have b : [1].Sublist (l.drop j) := List.singleton_sublist.mpr (List.mem_iff_getElem.mpr ⟨0, by rw [List.length_drop]; omega, by rw [List.getElem_drop]; exact h2⟩)
    exact a.append b
  have := hs.count_le 1
  simpa using this

/-- the shares of parts that stand in ascending order, if the chosen things are the upper ones -/
theorem ascends_of {f : Nat → Int} {V S : List Nat} {ps : List Tree} (hi : Inj f V) (hw : WfL ps) (hV : ∀ x ∈ listedL ps, x ∈ V) (ha : asc f ps) (hU : ∀ x ∈ listedL ps, ∀ y ∈ listedL ps, x ∈ S → f x < f y → y ∈ S) :
    ascends (ps.map (rank S)) := by
  have p0 : ∀ p ∈ ps, 0 < p.listed.length := fun p hp => listed_pos p (wfL_iff.mp hw p hp)
  have key : ∀ i j (hi : i < ps.length) (hj : j < ps.length), i < j → rank S ps[i] ≠ 0 → rank S ps[j] = 2 := fun i j hi hj hij h => by
    obtain ⟨x, hx, hxS⟩ := rank_ne h
    refine (rank_two (p0 _ (List.getElem_mem hj))).mpr fun y hy => ?_
    exact hU x (mem_listedL.mpr ⟨_, List.getElem_mem hi, hx⟩) y (mem_listedL.mpr ⟨_, List.getElem_mem hj, hy⟩) hxS (asc_lt ha i j hi hj hij x hx y hy)
  refine ⟨?_, ?_⟩
  · rw [List.pairwise_map, List.pairwise_iff_getElem]
    intro i j hi hj hij
    by_cases h : rank S ps[i] = 0
    · omega
    · have := key i j hi hj hij h
      rcases rank_cases S ps[i] with q | q | q <;> omega
  · refine Classical.byContradiction fun hn => ?_
    have h2 : [1, 1].Sublist (ps.map (rank S)) := by
      have : List.replicate 2 1 = [1, 1] := rfl
      rw [← this]
      exact List.replicate_sublist_iff.mpr (by omega)
    obtain ⟨is, e, hp⟩ := List.sublist_eq_map_getElem h2
    match is, e, hp with
    | [i, j], e, hp =>
      simp only [List.map_cons, List.map_nil, List.cons.injEq, and_true, Fin.getElem_fin, List.getElem_map] at e
      have hij : i < j := by simpa using hp
      have := key i j (by simpa using i.2) (by simpa using j.2) hij (by rw [← e.1]; omega)
      rw [← e.2] at this
      omega
    | [_], e, _ => simp at e
    | _ :: _ :: _ :: _, e, _ => simp at e

theorem splitRow_fit {f : Nat → Int} {V S : List Nat} {sp : Tree → Option (List Tree)} {ps : List Tree} (hi : Inj f V) (h3 : 3 ≤ ps.length) (hw : WfL ps) (hV : ∀ x ∈ listedL ps, x ∈ V)
    (hs : ∀ p ∈ ps, ∀ l, rank S p = 1 → sp p = some l → Struct l p) (hsp : ∀ p ∈ ps, rank S p = 1 → SpOk f V S sp p) (hr : rank S (.row ps) = 1) (hc : conv f V (listedL ps)) :
    (∃ L, splitRow sp S ps = some L ∧ asc f L ∧ FitL f V L) ↔ Fit f V (.row ps) ∧ Upper f S (.row ps) := by
  have p0 : ∀ p ∈ ps, 0 < p.listed.length := fun p hp => listed_pos p (wfL_iff.mp hw p hp)
  have tp := toldRow_perm S ps
  have tw := wfL_perm tp hw
  have tm : ∀ x, x ∈ listedL (toldRow S ps) ↔ x ∈ listedL ps := fun x => (listedL_perm tp).mem_iff
  have hct : conv f V (listedL (toldRow S ps)) := (conv_congr tm).mpr hc
  have ts := splice_fit (f := f) (V := V) (S := S) (sp := sp) tw (fun p hp => hs p (tp.mem_iff.mp hp))
  constructor
  · rintro ⟨L, hL, ha, hF⟩
    unfold splitRow at hL
    split at hL
    · rename_i hasc
      obtain ⟨at', hp⟩ := ts.mp ⟨L, hL, ha, hF⟩
      have each : ∀ p ∈ ps, Fit f V p ∧ (rank S p = 1 → Upper f S p) := fun p hpp => by
        obtain ⟨l, hl, al, fl⟩ := hp p (tp.mem_iff.mpr hpp)
        unfold piece at hl
        split at hl
        · rename_i hk
          have q := (hsp p hpp hk (conv_part at' hct (tp.mem_iff.mpr hpp))).mp ⟨l, hl, al, fl⟩
          exact ⟨q.1, fun _ => q.2⟩
        · rename_i hk
          simp only [Option.some.injEq] at hl
          subst hl
          exact ⟨fl.1, fun q => absurd q hk⟩
      refine ⟨⟨?_, fitL_iff.mpr fun p hp => (each p hp).1⟩, fun x hx y hy hxS hlt => ?_⟩
      · unfold toldRow at at'
        split at at'
        · exact .inl at'
        · exact .inr at'
      · obtain ⟨p, hpp, hxp⟩ := mem_listedL.mp ((tm x).mpr hx)
        obtain ⟨q, hqq, hyq⟩ := mem_listedL.mp ((tm y).mpr hy)
        obtain ⟨i, hi', rfl⟩ := List.mem_iff_getElem.mp hpp
        obtain ⟨j, hj', rfl⟩ := List.mem_iff_getElem.mp hqq
        have rx := rank_pos hxp hxS
        rcases Nat.lt_trichotomy i j with h | h | h
        · have q1 := List.pairwise_iff_getElem.mp hasc.1 i j (by simpa using hi') (by simpa using hj') h
          simp only [List.getElem_map] at q1
          have : rank S (toldRow S ps)[j] = 2 := by
            rcases rank_cases S (toldRow S ps)[j] with z | z | z
            · omega
            · exfalso
              have := count_two (l := (toldRow S ps).map (rank S)) (by simpa using hi') (by simpa using hj') h (by simp only [List.getElem_map]; omega) (by simp only [List.getElem_map]; omega)
              have := hasc.2
              omega
            · exact z
          exact (rank_two (p0 _ (tp.mem_iff.mp (List.getElem_mem hj')))).mp this y hyq
        · subst h
          by_cases k : rank S (toldRow S ps)[i] = 1
          · exact (each _ (tp.mem_iff.mp (List.getElem_mem hi'))).2 k x hxp y hyq hxS hlt
          · have : rank S (toldRow S ps)[i] = 2 := by rcases rank_cases S (toldRow S ps)[i] with z | z | z <;> omega
            exact (rank_two (p0 _ (tp.mem_iff.mp (List.getElem_mem hj')))).mp this y hyq
        · have := asc_lt at' j i hj' hi' h y hyq x hxp
          omega
    · cases hL
  · rintro ⟨⟨ho, hF⟩, hU⟩
    have hft := fitL_iff.mp hF
    have told_asc : asc f (toldRow S ps) := by
      unfold toldRow
      split
      · rename_i hasc
        rcases ho with ho | ho
        · exact ho
        · exfalso
          -- both ways ascending: all shares are alike
          have h2 := ascends_of hi (wfL_perm (List.reverse_perm ps) hw) (fun x hx => hV x ((listedL_perm (List.reverse_perm ps)).mem_iff.mp hx)) ho (fun x hx y hy => hU x ((listedL_perm (List.reverse_perm ps)).mem_iff.mp hx) y ((listedL_perm (List.reverse_perm ps)).mem_iff.mp hy))
          rw [List.map_reverse] at h2
          have same : ∀ i j (hi : i < ps.length) (hj : j < ps.length), i < j → rank S ps[i] = rank S ps[j] := fun i j hi hj hij => by
            have a := List.pairwise_iff_getElem.mp hasc.1 i j (by simpa using hi) (by simpa using hj) hij
            have b := List.pairwise_iff_getElem.mp (List.pairwise_reverse.mp h2.1) i j (by simpa using hi) (by simpa using hj) hij
            simp only [List.getElem_map] at a b
            omega
          have k0 : 0 < ps.length := by omega
          have all0 : ∀ j (hj : j < ps.length), rank S ps[j] = rank S ps[0] := fun j hj => by
            rcases Nat.eq_zero_or_pos j with q | q
            · subst q; rfl
            · exact (same 0 j k0 hj q).symm
          rcases rank_cases S ps[0] with z | z | z
          · obtain ⟨x, hx, hxS⟩ := rank_ne (S := S) (T := .row ps) (by omega)
            obtain ⟨p, hp, hxp⟩ := mem_listedL.mp hx
            obtain ⟨j, hj, rfl⟩ := List.mem_iff_getElem.mp hp
            exact rank_pos hxp hxS (by rw [all0 j hj, z])
          · have := count_two (l := ps.map (rank S)) (i := 0) (j := 1) (by simpa using k0) (by simp; omega) (by omega) (by simp [z]) (by simp [all0 1 (by omega), z])
            have := hasc.2
            omega
          · have l0 : 0 < (Tree.row ps).listed.length := listed_pos (.row ps) ⟨h3, hw⟩
            obtain ⟨x, hx, hxS⟩ := rank_one_out l0 hr
            obtain ⟨p, hp, hxp⟩ := mem_listedL.mp hx
            obtain ⟨j, hj, rfl⟩ := List.mem_iff_getElem.mp hp
            exact rank_of_out (p0 _ (List.getElem_mem hj)) hxp hxS (by rw [all0 j hj, z])
      · rename_i hasc
        rcases ho with ho | ho
        · exact absurd (ascends_of hi hw hV ho hU) hasc
        · exact ho
    have hasc : ascends ((toldRow S ps).map (rank S)) := ascends_of hi tw (fun x hx => hV x ((tm x).mp hx)) told_asc (fun x hx y hy => hU x ((tm x).mp hx) y ((tm y).mp hy))
    unfold splitRow
    rw [if_pos hasc]
    refine ts.mpr ⟨told_asc, fun p hp => ?_⟩
    have hpp := tp.mem_iff.mp hp
    unfold piece
    split
    · rename_i hk
      exact (hsp p hpp hk (conv_part told_asc hct hp)).mpr ⟨hft p hpp, fun x hx y hy => hU x (mem_listedL.mpr ⟨p, hpp, hx⟩) y (mem_listedL.mpr ⟨p, hpp, hy⟩)⟩
    · exact ⟨[p], rfl, asc_one, hft p hpp, trivial⟩

theorem split_fit {f : Nat → Int} {V S : List Nat} (hi : Inj f V) : ∀ {k : Nat} {T : Tree}, T.depth ≤ k → T.Wf → T.listed.Nodup → (∀ x ∈ T.listed, x ∈ V) → rank S T = 1 → SpOk f V S (split S k) T
  | k, .thing t, _, _, _, _, hr => by
    exfalso
    obtain ⟨x, hx, hxS⟩ := rank_ne (S := S) (T := .thing t) (by omega)
    obtain ⟨y, hy, hyS⟩ := rank_one_out (by simp [Tree.listed]) hr
    simp only [Tree.listed, List.mem_singleton] at hx hy
    subst hx hy
    exact hyS hxS
  | 0, .any ps, hd, _, _, _, _ => by simp [Tree.depth] at hd
  | 0, .row ps, hd, _, _, _, _ => by simp [Tree.depth] at hd
  | k + 1, .any ps, hd, hw, hn, hV, hr => fun hc => by
    have hd' := depthL_le.mp (show depthL ps ≤ k by simp only [Tree.depth] at hd; omega)
    exact splitAny_fit hi hw.2 hn hV (fun p hp l hk hl => split_struct (wfL_iff.mp hw.2 p hp) hk hl)
      (fun p hp hk => split_fit hi (hd' p hp) (wfL_iff.mp hw.2 p hp) (nodup_part hn hp) (fun x hx => hV x (mem_listedL.mpr ⟨p, hp, hx⟩)) hk) hc
  | k + 1, .row ps, hd, hw, hn, hV, hr => fun hc => by
    have hd' := depthL_le.mp (show depthL ps ≤ k by simp only [Tree.depth] at hd; omega)
    exact splitRow_fit hi hw.1 hw.2 hV (fun p hp l hk hl => split_struct (wfL_iff.mp hw.2 p hp) hk hl)
      (fun p hp hk => split_fit hi (hd' p hp) (wfL_iff.mp hw.2 p hp) (nodup_part hn hp) (fun x hx => hV x (mem_listedL.mpr ⟨p, hp, hx⟩)) hk) hr hc

/-! ### what joined does -/

theorem getD_at {α : Type} {l : List α} {i : Nat} (d : α) (h : i < l.length) : l.getD i d = l[i] := by
  rw [List.getD_eq_getElem?_getD, List.getElem?_eq_getElem h]
  rfl

/-- which parts are touched, by place -/
theorem mem_touched {S : List Nat} {ps : List Tree} {i : Nat} : i ∈ touched S ps ↔ ∃ h : i < ps.length, rank S ps[i] ≠ 0 := by
  unfold touched
  rw [List.mem_filter, List.mem_range, decide_eq_true_eq]
  constructor
  · rintro ⟨h, q⟩
    rw [getD_at _ h] at q
    exact ⟨h, q⟩
  · rintro ⟨h, q⟩
    exact ⟨h, by rw [getD_at _ h]; exact q⟩

theorem touched_lt {S : List Nat} {ps : List Tree} : (touched S ps).Pairwise (· < ·) := List.pairwise_lt_range.filter _

theorem touched_one {S : List Nat} {ps : List Tree} {t : Nat} (h : touched S ps = [t]) :
    ∃ A p B, ps = A ++ p :: B ∧ A.length = t ∧ rank S p ≠ 0 ∧ (∀ q ∈ A, rank S q = 0) ∧ (∀ q ∈ B, rank S q = 0) ∧ ps.getD t default = p := by
  obtain ⟨ht, hr⟩ := mem_touched.mp (h ▸ List.mem_singleton.mpr rfl : t ∈ touched S ps)
  have other : ∀ i (hi : i < ps.length), i ≠ t → rank S ps[i] = 0 := fun i hi hne => by
    refine Classical.byContradiction fun q => hne ?_
    have := mem_touched.mpr ⟨hi, q⟩
    rw [h] at this
    exact List.mem_singleton.mp this
  refine ⟨ps.take t, ps[t], ps.drop (t + 1), ?_, by rw [List.length_take]; omega, hr, fun q hq => ?_, fun q hq => ?_, getD_at _ ht⟩
  · rw [← List.drop_eq_getElem_cons ht, List.take_append_drop]
  · obtain ⟨i, hi, rfl⟩ := List.mem_iff_getElem.mp hq
    rw [List.length_take] at hi
    rw [List.getElem_take]
    exact other i (by omega) (by omega)
  · obtain ⟨i, hi, rfl⟩ := List.mem_iff_getElem.mp hq
    rw [List.length_drop] at hi
    rw [List.getElem_drop]
    exact other _ (by omega) (by omega)

theorem touched_more {S : List Nat} {ps : List Tree} (h0 : touched S ps ≠ []) (h : ∀ t, touched S ps ≠ [t]) :
    ∃ A a M b B, ps = A ++ a :: (M ++ b :: B) ∧ (touched S ps).headD 0 = A.length ∧ (touched S ps).getLastD 0 = A.length + 1 + M.length ∧
      rank S a ≠ 0 ∧ rank S b ≠ 0 ∧ (∀ q ∈ A, rank S q = 0) ∧ (∀ q ∈ B, rank S q = 0) := by
  obtain ⟨i, r, e⟩ : ∃ i r, touched S ps = i :: r := List.exists_cons_of_ne_nil h0
  have hr0 : r ≠ [] := fun z => h i (by rw [e, z])
  have lt := touched_lt (S := S) (ps := ps)
  obtain ⟨j, ej⟩ : ∃ j, r.getLast hr0 = j := ⟨_, rfl⟩
  have hjr : j ∈ r := ej ▸ List.getLast_mem hr0
  obtain ⟨hi, ri⟩ := mem_touched.mp (e ▸ List.mem_cons_self : i ∈ touched S ps)
  obtain ⟨hj, rj⟩ := mem_touched.mp (e ▸ List.mem_cons_of_mem _ hjr : j ∈ touched S ps)
  rw [e] at lt
  have lt' := List.pairwise_cons.mp lt
  have hij : i < j := lt'.1 j hjr
  have low : ∀ k (hk : k < ps.length), k < i → rank S ps[k] = 0 := fun k hk hki => by
    refine Classical.byContradiction fun q => ?_
    have := mem_touched.mpr ⟨hk, q⟩
    rw [e] at this
    rcases List.mem_cons.mp this with z | z
    · omega
    · have := lt'.1 k z; omega
  have high : ∀ k (hk : k < ps.length), j < k → rank S ps[k] = 0 := fun k hk hki => by
    refine Classical.byContradiction fun q => ?_
    have := mem_touched.mpr ⟨hk, q⟩
    rw [e] at this
    rcases List.mem_cons.mp this with z | z
    · omega
    · obtain ⟨n, hn, en⟩ := List.mem_iff_getElem.mp z
      have el : r.getLast hr0 = r[r.length - 1]'(by omega) := List.getLast_eq_getElem hr0
      by_cases q2 : n < r.length - 1
      · have := List.pairwise_iff_getElem.mp lt'.2 n (r.length - 1) hn (by omega) q2
        rw [← el, ej, en] at this
        omega
      · have : n = r.length - 1 := by omega
        subst this
        rw [← el, ej] at en
        omega
  refine ⟨ps.take i, ps[i], (ps.drop (i + 1)).take (j - (i + 1)), ps[j], ps.drop (j + 1), ?_, ?_, ?_, ri, rj, fun q hq => ?_, fun q hq => ?_⟩
  · have e3 : (ps.drop (i + 1)).drop (j - (i + 1)) = ps[j] :: ps.drop (j + 1) := by
      rw [List.drop_drop, show i + 1 + (j - (i + 1)) = j by omega]
      exact List.drop_eq_getElem_cons hj
    rw [← e3, List.take_append_drop, ← List.drop_eq_getElem_cons hi, List.take_append_drop]
  · rw [e, List.length_take]; simp only [List.headD_cons]; omega
  · rw [e, List.length_take, List.length_take, List.length_drop]
    have : (i :: r).getLastD 0 = j := by
      rw [List.getLastD_eq_getLast?, List.getLast?_cons, List.getLast?_eq_some_getLast hr0, ej]
      rfl
    rw [this]
    omega
  · obtain ⟨k, hk, rfl⟩ := List.mem_iff_getElem.mp hq
    rw [List.length_take] at hk
    rw [List.getElem_take]
    exact low k (by omega) (by omega)
  · obtain ⟨k, hk, rfl⟩ := List.mem_iff_getElem.mp hq
    rw [List.length_drop] at hk
    rw [List.getElem_drop]
    exact high _ (by omega) (by omega)

theorem rowMid_mid {sp : Tree → Option (List Tree)} {S : List Nat} {b : Tree} : ∀ {M : List Tree}, (∀ q ∈ M, rank S q = 2) →
    rowMid sp S (M ++ [b]) = (piece sp S b).map (fun l => M ++ l.reverse)
  | [], _ => by
    simp only [List.nil_append, rowMid]
  | q :: M, h => by
    have ih := rowMid_mid (sp := sp) (S := S) (b := b) (M := M) (fun z hz => h z (List.mem_cons_of_mem _ hz))
    have hq : piece sp S q = some [q] := by
      unfold piece
      rw [if_neg (by rw [h q List.mem_cons_self]; omega)]
    cases hM : M ++ [b] with
    | nil => simp at hM
    | cons c r =>
      rw [List.cons_append, hM, rowMid, hq, ← hM, ih]
      cases piece sp S b <;> simp

theorem rowMid_ends {sp : Tree → Option (List Tree)} {S : List Nat} {a b : Tree} {M : List Tree} (h : ∀ q ∈ M, rank S q = 2) :
    rowMid sp S (a :: (M ++ [b])) = match piece sp S a, piece sp S b with
      | some la, some lb => some (la ++ M ++ lb.reverse)
      | _, _ => none := by
  have ih := rowMid_mid (sp := sp) (S := S) (b := b) (M := M) h
  cases hM : M ++ [b] with
  | nil => simp at hM
  | cons c r =>
    rw [rowMid, ← hM, ih]
    cases piece sp S a with
    | none => rfl
    | some la =>
      cases piece sp S b with
      | none => rfl
      | some lb => simp

/-- joined_row on its parts -/
theorem joinedRow_at {sp : Tree → Option (List Tree)} {S : List Nat} {A M B ps : List Tree} {a b : Tree} (hps : ps = A ++ a :: (M ++ b :: B)) (h1 : (touched S ps).headD 0 = A.length) (h2 : (touched S ps).getLastD 0 = A.length + 1 + M.length) :
    joinedRow sp S ps = if (∀ q ∈ M, rank S q = 2) then (match piece sp S a, piece sp S b with
      | some la, some lb => some (makeRow (A ++ (la ++ M ++ lb.reverse) ++ B))
      | _, _ => none) else none := by
  have e1 : (ps.drop (A.length + 1)).take (A.length + 1 + M.length - (A.length + 1)) = M := by
    rw [hps, show A ++ a :: (M ++ b :: B) = (A ++ [a]) ++ (M ++ b :: B) by simp, show A.length + 1 = (A ++ [a]).length by simp, List.drop_left,
      show (A ++ [a]).length + M.length - (A ++ [a]).length = M.length by omega, List.take_left]
  have e2 : (ps.drop A.length).take (A.length + 1 + M.length + 1 - A.length) = a :: (M ++ [b]) := by
    rw [hps, List.drop_left, show A.length + 1 + M.length + 1 - A.length = (a :: (M ++ [b])).length by simp; omega,
      show a :: (M ++ b :: B) = (a :: (M ++ [b])) ++ B by simp, List.take_left]
  have e3 : ps.take A.length = A := by rw [hps, List.take_left]
  have e4 : ps.drop (A.length + 1 + M.length + 1) = B := by
    rw [hps, show A ++ a :: (M ++ b :: B) = (A ++ a :: (M ++ [b])) ++ B by simp, show A.length + 1 + M.length + 1 = (A ++ a :: (M ++ [b])).length by simp; omega, List.drop_left]
  unfold joinedRow
  simp only [h1, h2, e1, e2, e3, e4]
  by_cases hM : ∀ q ∈ M, rank S q = 2
  · have : M.all (fun p => decide (rank S p = 2)) = true := by simpa using hM
    rw [if_pos this, if_pos hM, rowMid_ends hM]
    cases piece sp S a with
    | none => rfl
    | some la => cases piece sp S b <;> rfl
  · have : ¬ M.all (fun p => decide (rank S p = 2)) = true := by simpa using hM
    rw [if_neg this, if_neg hM]

def JStruct (U T : Tree) : Prop := U.listed.Perm T.listed ∧ U.Wf

theorem joinedAny_struct {sp : Tree → Option (List Tree)} {S : List Nat} {ps : List Tree} {U : Tree} (hw : WfL ps) (h0 : rank S (.any ps) ≠ 0)
    (hs : ∀ p ∈ ps, ∀ l, rank S p = 1 → sp p = some l → Struct l p) (h : joinedAny sp S ps = some U) : JStruct U (.any ps) := by
  have hperm := listedL_perm (share_perm S ps)
  rw [listedL_append, listedL_append] at hperm
  have wE : WfL (withShare S ps 0) := wfL_share hw
  have wF : WfL (withShare S ps 2) := wfL_share hw
  unfold joinedAny at h
  split at h
  · rename_i h1
    simp only [Option.some.injEq] at h
    subst h
    rw [h1] at hperm
    simp only [listedL, List.append_nil] at hperm
    have hF : withShare S ps 2 ≠ [] := fun e => by
      obtain ⟨x, hx, hn⟩ := rank_ne h0
      obtain ⟨p, hp, hxp⟩ := mem_listedL.mp hx
      rcases rank_cases S p with q | q | q
      · exact rank_pos hxp hn q
      · have := mem_share.mpr ⟨hp, q⟩; rw [h1] at this; cases this
      · have := mem_share.mpr ⟨hp, q⟩; rw [e] at this; cases this
    refine ⟨?_, wf_makeAny (by simp) (wfL_append.mpr ⟨wE, wf_makeAny hF wF, trivial⟩)⟩
    rw [listed_makeAny, listedL_append]
    simp only [listedL, listed_makeAny, List.append_nil]
    exact hperm
  · rename_i m h1
    have hm : m ∈ ps ∧ rank S m = 1 := mem_share.mp (h1 ▸ List.mem_singleton.mpr rfl)
    split at h
    · cases h
    · rename_i l hl
      simp only [Option.some.injEq] at h
      subst h
      obtain ⟨a1, a2, a3⟩ := hs m hm.1 l hm.2 hl
      rw [h1] at hperm
      simp only [listedL, List.append_nil] at hperm
      have l0 : l ≠ [] := fun e => by rw [e] at a1; simp at a1
      refine ⟨?_, wf_makeAny (by simp) (wfL_append.mpr ⟨wE, wf_makeRow (by simp [l0]) (wfL_append.mpr ⟨a3, wfL_bundle wF⟩), trivial⟩)⟩
      rw [listed_makeAny, listedL_append]
      simp only [listedL, listed_makeRow, List.append_nil, listedL_append, listedL_bundle]
      rw [List.append_assoc] at hperm
      exact ((List.Perm.refl _).append (a2.append (.refl _))).trans hperm
  · rename_i m m' h1
    have hm : m ∈ ps ∧ rank S m = 1 := mem_share.mp (h1 ▸ List.mem_cons_self)
    have hm' : m' ∈ ps ∧ rank S m' = 1 := mem_share.mp (h1 ▸ List.mem_cons_of_mem _ List.mem_cons_self)
    split at h
    · rename_i l l' hl hl'
      simp only [Option.some.injEq] at h
      subst h
      obtain ⟨a1, a2, a3⟩ := hs m hm.1 l hm.2 hl
      obtain ⟨b1, b2, b3⟩ := hs m' hm'.1 l' hm'.2 hl'
      rw [h1] at hperm
      simp only [listedL, List.append_nil] at hperm
      have l0 : l ≠ [] := fun e => by rw [e] at a1; simp at a1
      have rp := List.reverse_perm l'
      refine ⟨?_, wf_makeAny (by simp) (wfL_append.mpr ⟨wE, wf_makeRow (by simp [l0]) (wfL_append.mpr ⟨wfL_append.mpr ⟨a3, wfL_bundle wF⟩, wfL_perm rp b3⟩), trivial⟩)⟩
      rw [listed_makeAny, listedL_append]
      simp only [listedL, listed_makeRow, List.append_nil, listedL_append, listedL_bundle]
      refine List.Perm.trans ?_ hperm
      rw [List.append_assoc, List.append_assoc]
      refine (List.Perm.refl _).append ?_
      rw [List.append_assoc]
      refine a2.append ?_
      exact (((List.Perm.refl _).append ((listedL_perm rp).trans b2)).trans List.perm_append_comm)
    · cases h
  · cases h

theorem joinedRow_struct {sp : Tree → Option (List Tree)} {S : List Nat} {ps : List Tree} {U : Tree} (hw : WfL ps) (h0 : touched S ps ≠ []) (h1 : ∀ t, touched S ps ≠ [t])
    (hs : ∀ p ∈ ps, ∀ l, rank S p = 1 → sp p = some l → Struct l p) (h : joinedRow sp S ps = some U) : JStruct U (.row ps) := by
  obtain ⟨A, a, M, b, B, e, t1, t2, ra, rb, _, _⟩ := touched_more h0 h1
  rw [joinedRow_at e t1 t2] at h
  split at h
  · have ha : a ∈ ps := by rw [e]; simp
    have hb : b ∈ ps := by rw [e]; simp
    split at h
    · rename_i la lb hla hlb
      simp only [Option.some.injEq] at h
      subst h
      obtain ⟨a1, a2, a3⟩ := piece_struct (wfL_iff.mp hw a ha) (hs a ha) hla
      obtain ⟨b1, b2, b3⟩ := piece_struct (wfL_iff.mp hw b hb) (hs b hb) hlb
      have rp := List.reverse_perm lb
      have l0 : la ≠ [] := fun z => by rw [z] at a1; simp at a1
      rw [e] at hw
      obtain ⟨wA, w1⟩ := wfL_append.mp hw
      obtain ⟨wa, w2⟩ : a.Wf ∧ WfL (M ++ b :: B) := w1
      obtain ⟨wM, w3⟩ := wfL_append.mp w2
      refine ⟨?_, wf_makeRow (by simp [l0]) (wfL_append.mpr ⟨wfL_append.mpr ⟨wA, wfL_append.mpr ⟨wfL_append.mpr ⟨a3, wM⟩, wfL_perm rp b3⟩⟩, w3.2⟩)⟩
      rw [listed_makeRow, Tree.listed, e]
      simp only [listedL_append, listedL, List.append_assoc]
      refine (List.Perm.refl _).append (a2.append ((List.Perm.refl _).append (((listedL_perm rp).trans b2).append (.refl _))))
    · cases h
  · cases h

theorem rank_any_zero {S : List Nat} {ps : List Tree} (h : touched S ps = []) : ∀ x ∈ listedL ps, x ∉ S := fun x hx hxS => by
  obtain ⟨p, hp, hxp⟩ := mem_listedL.mp hx
  obtain ⟨i, hi, rfl⟩ := List.mem_iff_getElem.mp hp
  have := mem_touched.mpr ⟨hi, rank_pos hxp hxS⟩
  rw [h] at this
  cases this

theorem joined_struct {S : List Nat} : ∀ {k : Nat} {T U : Tree}, T.Wf → rank S T ≠ 0 → joined S k T = some U → JStruct U T
  | k, .thing t, U, _, _, h => by
    have : U = .thing t := by cases k <;> simpa [joined, eq_comm] using h
    subst this
    exact ⟨.refl _, trivial⟩
  | 0, .any _, _, _, _, h => by simp [joined] at h
  | 0, .row _, _, _, _, h => by simp [joined] at h
  | k + 1, .any ps, U, hw, h0, h => by
    rw [joined] at h
    split at h
    · simp only [Option.some.injEq] at h
      subst h
      exact ⟨.refl _, hw⟩
    split at h
    · rename_i t ht
      obtain ⟨A, p, B, e, hA, hr, _, _, hg⟩ := touched_one ht
      rw [hg] at h
      split at h
      · cases h
      · rename_i q hq
        simp only [Option.some.injEq] at h
        subst h
        have hp : p ∈ ps := by rw [e]; simp
        obtain ⟨p1, w1⟩ := joined_struct (wfL_iff.mp hw.2 p hp) hr hq
        have es : ps.set t q = A ++ q :: B := by rw [e, ← hA, List.set_append_right _ _ (Nat.le_refl _)]; simp
        have hw2 := hw.2
        rw [es]
        rw [e] at hw2
        obtain ⟨wA, w2⟩ := wfL_append.mp hw2
        refine ⟨?_, ?_, wfL_append.mpr ⟨wA, w1, w2.2⟩⟩
        · simp only [Tree.listed, e, listedL_append, listedL]
          exact (List.Perm.refl _).append (p1.append (.refl _))
        · have := hw.1
          rw [e] at this
          simpa using this
    · exact joinedAny_struct hw.2 h0 (fun p hp l hk hl => split_struct (wfL_iff.mp hw.2 p hp) hk hl) h
  | k + 1, .row ps, U, hw, h0, h => by
    rw [joined] at h
    split at h
    · simp only [Option.some.injEq] at h
      subst h
      exact ⟨.refl _, hw⟩
    split at h
    · rename_i t ht
      obtain ⟨A, p, B, e, hA, hr, _, _, hg⟩ := touched_one ht
      rw [hg] at h
      split at h
      · cases h
      · rename_i q hq
        simp only [Option.some.injEq] at h
        subst h
        have hp : p ∈ ps := by rw [e]; simp
        obtain ⟨p1, w1⟩ := joined_struct (wfL_iff.mp hw.2 p hp) hr hq
        have es : ps.set t q = A ++ q :: B := by rw [e, ← hA, List.set_append_right _ _ (Nat.le_refl _)]; simp
        have hw2 := hw.2
        rw [es]
        rw [e] at hw2
        obtain ⟨wA, w2⟩ := wfL_append.mp hw2
        refine ⟨?_, ?_, wfL_append.mpr ⟨wA, w1, w2.2⟩⟩
        · simp only [Tree.listed, e, listedL_append, listedL]
          exact (List.Perm.refl _).append (p1.append (.refl _))
        · have := hw.1
          rw [e] at this
          simpa using this
    · rename_i hne
      exact joinedRow_struct hw.2 (fun z => h0 (rank_zero.mpr (rank_any_zero z))) hne (fun p hp l hk hl => split_struct (wfL_iff.mp hw.2 p hp) hk hl) h

/-! ### what joined says of an order -/

def ConvS (f : Nat → Int) (V S : List Nat) : Prop := ∀ x ∈ V, ∀ y ∈ V, ∀ z ∈ V, x ∈ S → z ∈ S → f x < f y → f y < f z → y ∈ S
theorem convS_neg' {f : Nat → Int} {V S : List Nat} (h : ConvS f V S) : ConvS (neg f) V S := fun x hx y hy z hz a b h1 h2 =>
  h z hz y hy x hx b a (by simp only [neg] at h2; omega) (by simp only [neg] at h1; omega)
theorem convS_neg {f : Nat → Int} {V S : List Nat} : ConvS (neg f) V S ↔ ConvS f V S := ⟨fun h => by have := convS_neg' h; rwa [neg_neg] at this, convS_neg'⟩

structure Ctx (f : Nat → Int) (V S : List Nat) (sp : Tree → Option (List Tree)) (ps : List Tree) : Prop where
  hi : Inj f V
  hw : WfL ps
  hn : (listedL ps).Nodup
  hV : ∀ x ∈ listedL ps, x ∈ V
  hs : ∀ p ∈ ps, ∀ l, rank S p = 1 → sp p = some l → Struct l p
  hsp : ∀ p ∈ ps, rank S p = 1 → SpOk f V S sp p
  hc : conv f V (listedL ps)
  hS : ∀ x ∈ V, x ∈ S → x ∈ listedL ps

section
variable {f : Nat → Int} {V S : List Nat} {sp : Tree → Option (List Tree)} {ps : List Tree}

theorem Ctx.up (X : Ctx f V S sp ps) {p : Tree} (hp : p ∈ ps) {x : Nat} (hx : x ∈ p.listed) : x ∈ listedL ps := mem_listedL.mpr ⟨p, hp, hx⟩
theorem Ctx.v (X : Ctx f V S sp ps) {p : Tree} (hp : p ∈ ps) {x : Nat} (hx : x ∈ p.listed) : x ∈ V := X.hV x (X.up hp hx)
theorem Ctx.p0 (X : Ctx f V S sp ps) {p : Tree} (hp : p ∈ ps) : 0 < p.listed.length := listed_pos p (wfL_iff.mp X.hw p hp)
theorem Ctx.ne (X : Ctx f V S sp ps) {x y : Nat} (hx : x ∈ V) (hy : y ∈ V) (h : x ≠ y) : f x ≠ f y := fun e => h (X.hi x hx y hy e)
theorem Ctx.dis (X : Ctx f V S sp ps) {p q : Tree} (hp : p ∈ ps) (hq : q ∈ ps) (h : p ≠ q) : ∀ x, x ∈ p.listed → x ∈ q.listed → False := fun _ hx hy => h (listed_unique X.hn hp hq hx hy)
theorem Ctx.fullS (X : Ctx f V S sp ps) {x : Nat} (hx : x ∈ listedL (withShare S ps 2)) : x ∈ S ∧ x ∈ listedL ps ∧ ∃ p ∈ ps, rank S p = 2 ∧ x ∈ p.listed := by
  obtain ⟨p, hp, hxp⟩ := mem_listedL.mp hx
  obtain ⟨hp, hr⟩ := mem_share.mp hp
  exact ⟨(rank_two (X.p0 hp)).mp hr x hxp, X.up hp hxp, p, hp, hr, hxp⟩

/-- where the chosen things stand together, the touched parts do -/
theorem Ctx.convU (X : Ctx f V S sp ps) (hcv : ∀ p ∈ ps, rank S p ≠ 0 → conv f V p.listed) (hS : ConvS f V S) {x y z : Nat} (hy : y ∈ V) {p q : Tree} (hp : p ∈ ps) (hq : q ∈ ps) (rp : rank S p ≠ 0) (rq : rank S q ≠ 0)
    (hx : x ∈ p.listed) (hz : z ∈ q.listed) (h1 : f x < f y) (h2 : f y < f z) : ∃ r ∈ ps, rank S r ≠ 0 ∧ y ∈ r.listed := by
  refine Classical.byContradiction fun hn => ?_
  have yp : y ∉ p.listed := fun h => hn ⟨p, hp, rp, h⟩
  have yq : y ∉ q.listed := fun h => hn ⟨q, hq, rq, h⟩
  obtain ⟨s, hs, hsS⟩ := rank_ne rp
  obtain ⟨t, ht, htS⟩ := rank_ne rq
  have a1 : f s < f y := by
    refine Classical.byContradiction fun n => ?_
    have := X.ne (X.v hp hs) hy (fun e => yp (e ▸ hs))
    exact yp (hcv p hp rp x hx y hy s hs h1 (by omega))
  have a2 : f y < f t := by
    refine Classical.byContradiction fun n => ?_
    have := X.ne (X.v hq ht) hy (fun e => yq (e ▸ ht))
    exact yq (hcv q hq rq t ht y hy z hz (by omega) h2)
  have hyS := hS s (X.v hp hs) y hy t (X.v hq ht) hsS htS a1 a2
  obtain ⟨r, hr, hyr⟩ := mem_listedL.mp (X.hS y hy hyS)
  exact hn ⟨r, hr, rank_pos hyr hyS, hyr⟩

/-- one mixed part, below the full ones -/
theorem mid1_to (X : Ctx f V S sp ps) {m : Tree} {l : List Tree} (h1 : withShare S ps 1 = [m]) (hl : sp m = some l)
    (ha : asc f (l ++ bundle (withShare S ps 2))) (hF : FitL f V (l ++ bundle (withShare S ps 2))) (hc : conv f V (listedL (l ++ bundle (withShare S ps 2)))) :
    (conv f V m.listed ∧ Fit f V m) ∧ (∀ p ∈ withShare S ps 2, conv f V p.listed ∧ Fit f V p) ∧ ConvS f V S := by
  have hm : m ∈ ps ∧ rank S m = 1 := mem_share.mp (h1 ▸ List.mem_singleton.mpr rfl)
  obtain ⟨_, sp2, _⟩ := X.hs m hm.1 l hm.2 hl
  have cM : conv f V m.listed := (conv_congr fun x => sp2.mem_iff).mp (conv_mid (A := []) (B := l) (C := bundle (withShare S ps 2)) (by simpa using ha) (by simpa using hc))
  have cF : conv f V (listedL (withShare S ps 2)) := by
    have := conv_mid (A := l) (B := bundle (withShare S ps 2)) (C := []) (by simpa using ha) (by simpa using hc)
    rwa [listedL_bundle] at this
  rw [fitL_append, fitL_bundle cF] at hF
  rw [asc_append, listedL_bundle] at ha
  have im := (X.hsp m hm.1 hm.2 cM).mp ⟨l, hl, ha.1, hF.1⟩
  refine ⟨⟨cM, im.1⟩, hF.2, fun x hx y hy z hz hxS hzS hxy hyz => ?_⟩
  have inU : ∀ x, x ∈ V → x ∈ S → x ∈ m.listed ∨ x ∈ listedL (withShare S ps 2) := fun x hx hxS => by
    obtain ⟨p, hp, hxp⟩ := mem_listedL.mp (X.hS x hx hxS)
    rcases rank_cases S p with q | q | q
    · exact absurd q (rank_pos hxp hxS)
    · have := mem_share.mpr ⟨hp, q⟩
      rw [h1, List.mem_singleton] at this
      exact .inl (this ▸ hxp)
    · exact .inr (mem_listedL.mpr ⟨p, mem_share.mpr ⟨hp, q⟩, hxp⟩)
  have hyU : y ∈ listedL (l ++ bundle (withShare S ps 2)) := by
    have t : ∀ x, x ∈ V → x ∈ S → x ∈ listedL (l ++ bundle (withShare S ps 2)) := fun x hx hxS => by
      rw [listedL_append, listedL_bundle, List.mem_append]
      exact (inU x hx hxS).imp (sp2.mem_iff.mpr) id
    exact hc x (t x hx hxS) y hy z (t z hz hzS) hxy hyz
  rw [listedL_append, listedL_bundle, List.mem_append] at hyU
  rcases hyU with hyU | hyU
  · rcases inU x hx hxS with h | h
    · exact im.2 x h y (sp2.mem_iff.mp hyU) hxS hxy
    · have := ha.2.2 y hyU x h; omega
  · exact (X.fullS hyU).1

theorem mid1_from (X : Ctx f V S sp ps) {m : Tree} (h1 : withShare S ps 1 = [m]) (hcv : ∀ p ∈ ps, conv f V p.listed) (hft : ∀ p ∈ ps, Fit f V p) (hS : ConvS f V S)
    {a s : Nat} (ham : a ∈ m.listed) (haS : a ∉ S) (hs : s ∈ listedL (withShare S ps 2)) (has : f a < f s) :
    ∃ l, sp m = some l ∧ asc f (l ++ bundle (withShare S ps 2)) ∧ (conv f V (listedL (withShare S ps 2)) → FitL f V (l ++ bundle (withShare S ps 2))) := by
  have hm : m ∈ ps ∧ rank S m = 1 := mem_share.mp (h1 ▸ List.mem_singleton.mpr rfl)
  have notm : ∀ z, z ∈ listedL (withShare S ps 2) → z ∉ m.listed := fun z hz hzm => by
    obtain ⟨_, _, p, hp, hr, hzp⟩ := X.fullS hz
    have := listed_unique X.hn hp hm.1 hzp hzm
    subst this
    omega
  have sV := X.hV s (X.fullS hs).2.1
  have aV := X.v hm.1 ham
  have ms : ∀ y ∈ m.listed, f y < f s := fun y hy => by
    refine Classical.byContradiction fun n => ?_
    have := X.ne (X.v hm.1 hy) sV (fun e => notm s hs (e ▸ hy))
    exact notm s hs (hcv m hm.1 a ham s sV y hy has (by omega))
  have hU : Upper f S m := fun x hx y hy hxS hxy => hS x (X.v hm.1 hx) y (X.v hm.1 hy) s sV hxS (X.fullS hs).1 hxy (ms y hy)
  have mF : ∀ y ∈ m.listed, ∀ z ∈ listedL (withShare S ps 2), f y < f z := fun y hy z hz => by
    have zV := X.hV z (X.fullS hz).2.1
    have naz : f a < f z := by
      refine Classical.byContradiction fun n => ?_
      have := X.ne aV zV (fun e => notm z hz (e ▸ ham))
      exact haS (hS z zV a aV s sV (X.fullS hz).1 (X.fullS hs).1 (by omega) has)
    refine Classical.byContradiction fun n => ?_
    have := X.ne (X.v hm.1 hy) zV (fun e => notm z hz (e ▸ hy))
    exact notm z hz (hcv m hm.1 a ham z zV y hy naz (by omega))
  obtain ⟨l, hl, al, fl⟩ := (X.hsp m hm.1 hm.2 (hcv m hm.1)).mpr ⟨hft m hm.1, hU⟩
  obtain ⟨_, sp2, _⟩ := X.hs m hm.1 l hm.2 hl
  refine ⟨l, hl, ?_, fun cF => ?_⟩
  · rw [asc_append, listedL_bundle]
    exact ⟨al, asc_bundle, fun x hx y hy => mF x (sp2.mem_iff.mp hx) y hy⟩
  · rw [fitL_append, fitL_bundle cF]
    exact ⟨fl, fun p hp => ⟨hcv p (mem_share.mp hp).1, hft p (mem_share.mp hp).1⟩⟩

/-- two mixed parts, the full ones between them -/
theorem mid2_to (X : Ctx f V S sp ps) (Y : Ctx (neg f) V S sp ps) {m m' : Tree} {l l' : List Tree} (h1 : withShare S ps 1 = [m, m']) (hl : sp m = some l) (hl' : sp m' = some l')
    (ha : asc f (l ++ bundle (withShare S ps 2) ++ l'.reverse)) (hF : FitL f V (l ++ bundle (withShare S ps 2) ++ l'.reverse)) (hc : conv f V (listedL (l ++ bundle (withShare S ps 2) ++ l'.reverse))) :
    (conv f V m.listed ∧ Fit f V m) ∧ (conv f V m'.listed ∧ Fit f V m') ∧ (∀ p ∈ withShare S ps 2, conv f V p.listed ∧ Fit f V p) ∧ ConvS f V S := by
  have hm : m ∈ ps ∧ rank S m = 1 := mem_share.mp (h1 ▸ List.mem_cons_self)
  have hm' : m' ∈ ps ∧ rank S m' = 1 := mem_share.mp (h1 ▸ List.mem_cons_of_mem _ List.mem_cons_self)
  obtain ⟨_, sp2, _⟩ := X.hs m hm.1 l hm.2 hl
  obtain ⟨_, sp2', _⟩ := X.hs m' hm'.1 l' hm'.2 hl'
  have rp : ∀ x, x ∈ listedL l'.reverse ↔ x ∈ m'.listed := fun x => ((listedL_perm (List.reverse_perm l')).trans sp2').mem_iff
  have cM : conv f V m.listed := (conv_congr fun x => sp2.mem_iff).mp (conv_mid (A := []) (B := l) (C := bundle (withShare S ps 2) ++ l'.reverse) (by simpa using ha) (by simpa using hc))
  have cM' : conv f V m'.listed := (conv_congr rp).mp (conv_mid (A := l ++ bundle (withShare S ps 2)) (B := l'.reverse) (C := []) (by simpa using ha) (by simpa using hc))
  have cF : conv f V (listedL (withShare S ps 2)) := by
    have := conv_mid ha hc
    rwa [listedL_bundle] at this
  rw [fitL_append, fitL_append, fitL_bundle cF] at hF
  rw [asc_append, asc_append, listedL_append, listedL_bundle] at ha
  have im := (X.hsp m hm.1 hm.2 cM).mp ⟨l, hl, ha.1.1, hF.1.1⟩
  have im' := (Y.hsp m' hm'.1 hm'.2 (conv_neg.mpr cM')).mp ⟨l', hl', asc_neg.mpr ha.2.1, fitL_neg.mpr ((fitL_perm fun p => (List.reverse_perm l').mem_iff).mp hF.2)⟩
  refine ⟨⟨cM, im.1⟩, ⟨cM', fit_neg.mp im'.1⟩, hF.1.2, fun x hx y hy z hz hxS hzS hxy hyz => ?_⟩
  have inU : ∀ x, x ∈ V → x ∈ S → x ∈ m.listed ∨ x ∈ listedL (withShare S ps 2) ∨ x ∈ m'.listed := fun x hx hxS => by
    obtain ⟨p, hp, hxp⟩ := mem_listedL.mp (X.hS x hx hxS)
    rcases rank_cases S p with q | q | q
    · exact absurd q (rank_pos hxp hxS)
    · have := mem_share.mpr ⟨hp, q⟩
      rw [h1] at this
      simp only [List.mem_cons, List.not_mem_nil, or_false] at this
      rcases this with rfl | rfl
      · exact .inl hxp
      · exact .inr (.inr hxp)
    · exact .inr (.inl (mem_listedL.mpr ⟨p, mem_share.mpr ⟨hp, q⟩, hxp⟩))
  have mF : ∀ x ∈ m.listed, ∀ y ∈ listedL (withShare S ps 2), f x < f y := fun x hx y hy => ha.1.2.2 x (sp2.mem_iff.mpr hx) y hy
  have mm' : ∀ x ∈ m.listed, ∀ y ∈ m'.listed, f x < f y := fun x hx y hy => ha.2.2 x (List.mem_append_left _ (sp2.mem_iff.mpr hx)) y ((rp y).mpr hy)
  have Fm' : ∀ x ∈ listedL (withShare S ps 2), ∀ y ∈ m'.listed, f x < f y := fun x hx y hy => ha.2.2 x (List.mem_append_right _ hx) y ((rp y).mpr hy)
  have hyU : y ∈ m.listed ∨ y ∈ listedL (withShare S ps 2) ∨ y ∈ m'.listed := by
    have t : ∀ x, x ∈ listedL (l ++ bundle (withShare S ps 2) ++ l'.reverse) ↔ x ∈ m.listed ∨ x ∈ listedL (withShare S ps 2) ∨ x ∈ m'.listed := fun x => by
      rw [listedL_append, listedL_append, listedL_bundle, List.mem_append, List.mem_append, rp, sp2.mem_iff, or_assoc]
    exact (t y).mp (hc x ((t x).mpr (inU x hx hxS)) y hy z ((t z).mpr (inU z hz hzS)) hxy hyz)
  rcases hyU with hyU | hyU | hyU
  · rcases inU x hx hxS with h | h | h
    · exact im.2 x h y hyU hxS hxy
    · have := mF y hyU x h; omega
    · have := mm' y hyU x h; omega
  · exact (X.fullS hyU).1
  · rcases inU z hz hzS with h | h | h
    · have := mm' z h y hyU; omega
    · have := Fm' z h y hyU; omega
    · exact im'.2 z h y hyU hzS (by simp only [neg]; omega)

/-- between parts with chosen things a part is full -/
theorem Ctx.between (X : Ctx f V S sp ps) (hS : ConvS f V S) {p q r : Tree} (hp : p ∈ ps) (hq : q ∈ ps) (hr : r ∈ ps) (rp : rank S p ≠ 0) (rr : rank S r ≠ 0) (h1 : lts f p q) (h2 : lts f q r) : rank S q = 2 := by
  obtain ⟨s, hs, hsS⟩ := rank_ne rp
  obtain ⟨t, ht, htS⟩ := rank_ne rr
  exact (rank_two (X.p0 hq)).mpr fun y hy => hS s (X.v hp hs) y (X.v hq hy) t (X.v hr ht) hsS htS (h1 s hs y hy) (h2 y hy t ht)

theorem Ctx.total (X : Ctx f V S sp ps) (hcv : ∀ p ∈ ps, conv f V p.listed) {p q : Tree} (hp : p ∈ ps) (hq : q ∈ ps) (d : ∀ x, x ∈ p.listed → x ∈ q.listed → False) : lts f p q ∨ lts f q p :=
  lts_total X.hi (fun _ hx => X.v hp hx) (fun _ hx => X.v hq hx) (hcv p hp) (hcv q hq) d (X.p0 hp) (X.p0 hq)

theorem mid2_from (X : Ctx f V S sp ps) (Y : Ctx (neg f) V S sp ps) {m m' : Tree} (h1 : withShare S ps 1 = [m, m']) (hcv : ∀ p ∈ ps, conv f V p.listed) (hft : ∀ p ∈ ps, Fit f V p) (hS : ConvS f V S)
    (hlt : lts f m m') :
    ∃ l l', sp m = some l ∧ sp m' = some l' ∧ asc f (l ++ bundle (withShare S ps 2) ++ l'.reverse) ∧ (conv f V (listedL (withShare S ps 2)) → FitL f V (l ++ bundle (withShare S ps 2) ++ l'.reverse)) := by
  have hm : m ∈ ps ∧ rank S m = 1 := mem_share.mp (h1 ▸ List.mem_cons_self)
  have hm' : m' ∈ ps ∧ rank S m' = 1 := mem_share.mp (h1 ▸ List.mem_cons_of_mem _ List.mem_cons_self)
  obtain ⟨b, hb, hbS⟩ := rank_ne (S := S) (T := m) (by omega)
  obtain ⟨b', hb', hbS'⟩ := rank_ne (S := S) (T := m') (by omega)
  have hU : Upper f S m := fun x hx y hy hxS hxy => hS x (X.v hm.1 hx) y (X.v hm.1 hy) b' (X.v hm'.1 hb') hxS hbS' hxy (hlt y hy b' hb')
  have hU' : Upper (neg f) S m' := fun x hx y hy hxS hxy => hS b (X.v hm.1 hb) y (X.v hm'.1 hy) x (X.v hm'.1 hx) hbS hxS (hlt b hb y hy) (by simp only [neg] at hxy; omega)
  have fullB : ∀ p ∈ withShare S ps 2, lts f m p ∧ lts f p m' := fun p hp => by
    obtain ⟨hp, hr⟩ := mem_share.mp hp
    have d1 := X.dis hm.1 hp (fun e => by subst e; omega)
    have d2 := X.dis hp hm'.1 (fun e => by subst e; omega)
    rcases X.total hcv hm.1 hp d1 with h | h
    · rcases X.total hcv hp hm'.1 d2 with g | g
      · exact ⟨h, g⟩
      · have := X.between hS hm.1 hm'.1 hp (by omega) (by omega) hlt g
        omega
    · have := X.between hS hp hm.1 hm'.1 (by omega) (by omega) h hlt
      omega
  obtain ⟨l, hl, al, fl⟩ := (X.hsp m hm.1 hm.2 (hcv m hm.1)).mpr ⟨hft m hm.1, hU⟩
  obtain ⟨l', hl', al', fl'⟩ := (Y.hsp m' hm'.1 hm'.2 (conv_neg.mpr (hcv m' hm'.1))).mpr ⟨fit_neg.mpr (hft m' hm'.1), hU'⟩
  obtain ⟨_, sp2, _⟩ := X.hs m hm.1 l hm.2 hl
  obtain ⟨_, sp2', _⟩ := X.hs m' hm'.1 l' hm'.2 hl'
  have rp : ∀ x, x ∈ listedL l'.reverse ↔ x ∈ m'.listed := fun x => ((listedL_perm (List.reverse_perm l')).trans sp2').mem_iff
  refine ⟨l, l', hl, hl', ?_, fun cF => ?_⟩
  · rw [asc_append, asc_append, listedL_append, listedL_bundle]
    refine ⟨⟨al, asc_bundle, fun x hx y hy => ?_⟩, asc_neg.mp al', fun x hx y hy => ?_⟩
    · obtain ⟨p, hp, hyp⟩ := mem_listedL.mp hy
      exact (fullB p hp).1 x (sp2.mem_iff.mp hx) y hyp
    · rcases List.mem_append.mp hx with hx | hx
      · exact hlt x (sp2.mem_iff.mp hx) y ((rp y).mp hy)
      · obtain ⟨p, hp, hxp⟩ := mem_listedL.mp hx
        exact (fullB p hp).2 x hxp y ((rp y).mp hy)
  · rw [fitL_append, fitL_append, fitL_bundle cF]
    exact ⟨⟨fl, fun p hp => ⟨hcv p (mem_share.mp hp).1, hft p (mem_share.mp hp).1⟩⟩, (fitL_perm fun p => (List.reverse_perm l').mem_iff).mpr (fitL_neg.mp fl')⟩

end

theorem makeRow_three {M : List Tree} (h : 3 ≤ M.length) : makeRow M = .row M := by
  unfold makeRow
  rw [if_neg (by omega)]

theorem two_touched {S : List Nat} {ps : List Tree} (h0 : touched S ps ≠ []) (h1 : ∀ t, touched S ps ≠ [t]) : 2 ≤ (withShare S ps 1).length + (withShare S ps 2).length := by
  obtain ⟨A, a, M, b, B, e, _, _, ra, rb, _, _⟩ := touched_more h0 h1
  rw [e]
  rcases rank_cases S a with q | q | q <;> rcases rank_cases S b with z | z | z <;> simp [withShare, List.filter_append, q, z] <;> first | omega | (exact absurd q ra) | (exact absurd z rb)

section
variable {f : Nat → Int} {V S : List Nat} {sp : Tree → Option (List Tree)} {ps : List Tree}

theorem joinedAny_fit (X : Ctx f V S sp ps) (Y : Ctx (neg f) V S sp ps) (h0 : touched S ps ≠ []) (h1 : ∀ t, touched S ps ≠ [t]) :
    (∃ U, joinedAny sp S ps = some U ∧ Fit f V U) ↔ Fit f V (.any ps) ∧ ConvS f V S := by
  have h2 := two_touched h0 h1
  have hperm := listedL_perm (share_perm S ps)
  rw [listedL_append, listedL_append] at hperm
  have inE : ∀ p ∈ ps, p ∈ withShare S ps 0 ∨ p ∈ withShare S ps 1 ∨ p ∈ withShare S ps 2 := fun p hp => by
    rcases rank_cases S p with h | h | h
    · exact .inl (mem_share.mpr ⟨hp, h⟩)
    · exact .inr (.inl (mem_share.mpr ⟨hp, h⟩))
    · exact .inr (.inr (mem_share.mpr ⟨hp, h⟩))
  have fitAny : (∀ p ∈ ps, conv f V p.listed ∧ Fit f V p) ↔ Fit f V (.any ps) := by
    show _ ↔ ((∀ p ∈ ps, conv f V p.listed) ∧ FitL f V ps)
    rw [fitL_iff]
    exact ⟨fun h => ⟨fun p hp => (h p hp).1, fun p hp => (h p hp).2⟩, fun h p hp => ⟨h.1 p hp, h.2 p hp⟩⟩
  unfold joinedAny
  split
  · rename_i e1
    rw [e1] at hperm inE
    simp only [listedL, List.append_nil] at hperm
    have top : conv f V (listedL (withShare S ps 0 ++ [makeAny (withShare S ps 2)])) := (conv_congr fun x => by
      rw [listedL_append]; simp only [listedL, listed_makeAny, List.append_nil]; exact hperm.mem_iff).mpr X.hc
    have cS : conv f V (listedL (withShare S ps 2)) ↔ ConvS f V S := by
      have t : ∀ x, x ∈ listedL (withShare S ps 2) ↔ x ∈ V ∧ x ∈ S := fun x => by
        refine ⟨fun h => ⟨X.hV x (X.fullS h).2.1, (X.fullS h).1⟩, fun h => ?_⟩
        obtain ⟨p, hp, hxp⟩ := mem_listedL.mp (X.hS x h.1 h.2)
        rcases inE p hp with q | q | q
        · exact absurd (mem_share.mp q).2 (rank_pos hxp h.2)
        · cases q
        · exact mem_listedL.mpr ⟨p, q, hxp⟩
      unfold conv ConvS
      simp only [t]
      exact ⟨fun h x hx y hy z hz a b c d => (h x ⟨hx, a⟩ y hy z ⟨hz, b⟩ c d).2, fun h x hx y hy z hz c d => ⟨hy, h x hx.1 y hy z hz.1 hx.2 hz.2 c d⟩⟩
    constructor
    · rintro ⟨U, hU, hF⟩
      simp only [Option.some.injEq] at hU
      subst hU
      have q := (fit_makeAny top).mp hF
      have qX := q _ (List.mem_append_right _ (List.mem_singleton.mpr rfl))
      rw [listed_makeAny] at qX
      have qF := (fit_makeAny qX.1).mp qX.2
      refine ⟨fitAny.mp fun p hp => ?_, cS.mp qX.1⟩
      rcases inE p hp with h | h | h
      · exact q p (List.mem_append_left _ h)
      · cases h
      · exact qF p h
    · rintro ⟨hF, hS⟩
      have hF := fitAny.mpr hF
      have cF := cS.mpr hS
      refine ⟨_, rfl, (fit_makeAny top).mpr fun p hp => ?_⟩
      rcases List.mem_append.mp hp with h | h
      · exact hF p (mem_share.mp h).1
      · rw [List.mem_singleton.mp h, listed_makeAny]
        exact ⟨cF, (fit_makeAny cF).mpr fun p hp => hF p (mem_share.mp hp).1⟩
  · rename_i m e1
    have hm : m ∈ ps ∧ rank S m = 1 := mem_share.mp (e1 ▸ List.mem_singleton.mpr rfl)
    have hF0 : withShare S ps 2 ≠ [] := fun e => by rw [e1, e] at h2; simp at h2
    have bl : (bundle (withShare S ps 2)).length = 1 := by simp [bundle, hF0]
    rw [e1] at hperm inE
    simp only [listedL, List.append_nil] at hperm
    have each : ∀ {l}, sp m = some l → 3 ≤ (l ++ bundle (withShare S ps 2)).length ∧ (∀ x, x ∈ listedL (l ++ bundle (withShare S ps 2)) ↔ x ∈ m.listed ∨ x ∈ listedL (withShare S ps 2)) := fun {l} hl => by
      obtain ⟨a1, a2, _⟩ := X.hs m hm.1 l hm.2 hl
      refine ⟨by rw [List.length_append, bl]; omega, fun x => ?_⟩
      rw [listedL_append, listedL_bundle, List.mem_append, a2.mem_iff]
    have topm : ∀ x, x ∈ listedL ps ↔ x ∈ listedL (withShare S ps 0) ∨ x ∈ m.listed ∨ x ∈ listedL (withShare S ps 2) := fun x => by
      rw [← hperm.mem_iff, List.mem_append, List.mem_append, or_assoc]
    have top : ∀ {l}, sp m = some l → conv f V (listedL (withShare S ps 0 ++ [makeRow (l ++ bundle (withShare S ps 2))])) := fun {l} hl => (conv_congr fun x => by
      rw [topm, listedL_append]; simp only [listedL, listed_makeRow, List.append_nil, List.mem_append, (each hl).2]).mpr X.hc
    constructor
    · rintro ⟨U, hU, hF⟩
      split at hU
      · cases hU
      · rename_i l hl
        simp only [Option.some.injEq] at hU
        subst hU
        have q := (fit_makeAny (top hl)).mp hF
        have qX := q _ (List.mem_append_right _ (List.mem_singleton.mpr rfl))
        rw [listed_makeRow, makeRow_three (each hl).1] at qX
        obtain ⟨qc, qo, qF⟩ := qX
        have main : (conv f V m.listed ∧ Fit f V m) ∧ (∀ p ∈ withShare S ps 2, conv f V p.listed ∧ Fit f V p) ∧ ConvS f V S := by
          rcases qo with qo | qo
          · exact mid1_to X e1 hl qo qF qc
          · have := mid1_to Y e1 hl (asc_neg.mpr qo) (fitL_neg.mpr qF) (conv_neg.mpr qc)
            simpa only [conv_neg, fit_neg, convS_neg] using this
        refine ⟨fitAny.mp fun p hp => ?_, main.2.2⟩
        rcases inE p hp with h | h | h
        · exact q p (List.mem_append_left _ h)
        · rw [List.mem_singleton.mp h]; exact main.1
        · exact main.2.1 p h
    · rintro ⟨hF, hS⟩
      have hF := fitAny.mpr hF
      have hcv : ∀ p ∈ ps, conv f V p.listed := fun p hp => (hF p hp).1
      have hft : ∀ p ∈ ps, Fit f V p := fun p hp => (hF p hp).2
      obtain ⟨a, ham, haS⟩ := rank_one_out (X.p0 hm.1) hm.2
      obtain ⟨s, hs⟩ : ∃ s, s ∈ listedL (withShare S ps 2) := by
        obtain ⟨p, hp⟩ := List.exists_mem_of_ne_nil _ hF0
        obtain ⟨s, hs⟩ := List.exists_mem_of_length_pos (X.p0 (mem_share.mp hp).1)
        exact ⟨s, mem_listedL.mpr ⟨p, hp, hs⟩⟩
      have cU : ∀ {l}, sp m = some l → conv f V (listedL (l ++ bundle (withShare S ps 2))) := fun {l} hl => by
        have tp : ∀ x, x ∈ listedL (l ++ bundle (withShare S ps 2)) ↔ ∃ p ∈ ps, rank S p ≠ 0 ∧ x ∈ p.listed := fun x => by
          rw [(each hl).2]
          constructor
          · rintro (h | h)
            · exact ⟨m, hm.1, by omega, h⟩
            · obtain ⟨_, _, p, hp, hr, hxp⟩ := X.fullS h
              exact ⟨p, hp, by omega, hxp⟩
          · rintro ⟨p, hp, hr, hxp⟩
            rcases inE p hp with h | h | h
            · exact absurd (mem_share.mp h).2 hr
            · rw [List.mem_singleton.mp h] at hxp; exact .inl hxp
            · exact .inr (mem_listedL.mpr ⟨p, h, hxp⟩)
        intro x hx y hy z hz c d
        obtain ⟨p, hp, rp, hxp⟩ := (tp x).mp hx
        obtain ⟨q, hq, rq, hzq⟩ := (tp z).mp hz
        exact (tp y).mpr (X.convU (fun p hp _ => hcv p hp) hS hy hp hq rp rq hxp hzq c d)
      have sV := X.hV s (X.fullS hs).2.1
      have hne : f a ≠ f s := X.ne (X.v hm.1 ham) sV (fun e => haS (e ▸ (X.fullS hs).1))
      have done : ∀ {l}, sp m = some l → (asc f (l ++ bundle (withShare S ps 2)) ∨ asc f (l ++ bundle (withShare S ps 2)).reverse) → (conv f V (listedL (withShare S ps 2)) → FitL f V (l ++ bundle (withShare S ps 2))) →
          ∃ U, (match sp m with | none => none | some l => some (makeAny (withShare S ps 0 ++ [makeRow (l ++ bundle (withShare S ps 2))]))) = some U ∧ Fit f V U := fun {l} hl ho hf => by
        rw [hl]
        have cF : conv f V (listedL (withShare S ps 2)) := by
          rcases ho with ho | ho
          · have := conv_mid (A := l) (B := bundle (withShare S ps 2)) (C := []) (by simpa using ho) (by simpa using cU hl)
            rwa [listedL_bundle] at this
          · have ho' := asc_neg.mpr ho
            have := conv_mid (A := l) (B := bundle (withShare S ps 2)) (C := []) (by simpa using ho') (by simpa using conv_neg.mpr (cU hl))
            rw [listedL_bundle] at this
            exact conv_neg.mp this
        refine ⟨_, rfl, (fit_makeAny (top hl)).mpr fun p hp => ?_⟩
        rcases List.mem_append.mp hp with h | h
        · exact hF p (mem_share.mp h).1
        · rw [List.mem_singleton.mp h, listed_makeRow, makeRow_three (each hl).1]
          exact ⟨cU hl, ho, hf cF⟩
      by_cases hlt : f a < f s
      · obtain ⟨l, hl, ha, hf⟩ := mid1_from X e1 hcv hft hS ham haS hs hlt
        exact done hl (.inl ha) hf
      · obtain ⟨l, hl, ha, hf⟩ := mid1_from Y e1 (fun p hp => conv_neg.mpr (hcv p hp)) (fun p hp => fit_neg.mpr (hft p hp)) (convS_neg.mpr hS) ham haS hs (by simp only [neg]; omega)
        exact done hl (.inr (asc_neg.mp ha)) (fun c => fitL_neg.mp (hf (conv_neg.mpr c)))
  · rename_i m m' e1
    have hm : m ∈ ps ∧ rank S m = 1 := mem_share.mp (e1 ▸ List.mem_cons_self)
    have hm' : m' ∈ ps ∧ rank S m' = 1 := mem_share.mp (e1 ▸ List.mem_cons_of_mem _ List.mem_cons_self)
    have hsub : [m, m'].Sublist ps := e1 ▸ List.filter_sublist
    have dmm := two_disjoint X.hn hsub
    rw [e1] at hperm inE
    simp only [listedL, List.append_nil] at hperm
    have each : ∀ {l l'}, sp m = some l → sp m' = some l' → 3 ≤ (l ++ bundle (withShare S ps 2) ++ l'.reverse).length ∧ (∀ x, x ∈ listedL (l ++ bundle (withShare S ps 2) ++ l'.reverse) ↔ x ∈ m.listed ∨ x ∈ m'.listed ∨ x ∈ listedL (withShare S ps 2)) := fun {l l'} hl hl' => by
      obtain ⟨a1, a2, _⟩ := X.hs m hm.1 l hm.2 hl
      obtain ⟨b1, b2, _⟩ := X.hs m' hm'.1 l' hm'.2 hl'
      refine ⟨by rw [List.length_append, List.length_append, List.length_reverse]; omega, fun x => ?_⟩
      rw [listedL_append, listedL_append, listedL_bundle, List.mem_append, List.mem_append, a2.mem_iff, ((listedL_perm (List.reverse_perm l')).trans b2).mem_iff, or_assoc, or_comm (a := x ∈ m'.listed)]
    have topm : ∀ x, x ∈ listedL ps ↔ x ∈ listedL (withShare S ps 0) ∨ x ∈ m.listed ∨ x ∈ m'.listed ∨ x ∈ listedL (withShare S ps 2) := fun x => by
      rw [← hperm.mem_iff]
      simp only [List.mem_append, or_assoc]
    have top : ∀ {l l'}, sp m = some l → sp m' = some l' → conv f V (listedL (withShare S ps 0 ++ [makeRow (l ++ bundle (withShare S ps 2) ++ l'.reverse)])) := fun {l l'} hl hl' => (conv_congr fun x => by
      rw [topm, listedL_append]
      simp only [listedL, listed_makeRow, List.append_nil]
      rw [List.mem_append, (each hl hl').2]).mpr X.hc
    constructor
    · rintro ⟨U, hU, hF⟩
      split at hU
      · rename_i l l' hl hl'
        simp only [Option.some.injEq] at hU
        subst hU
        have q := (fit_makeAny (top hl hl')).mp hF
        have qX := q _ (List.mem_append_right _ (List.mem_singleton.mpr rfl))
        rw [listed_makeRow, makeRow_three (each hl hl').1] at qX
        obtain ⟨qc, qo, qF⟩ := qX
        have main : (conv f V m.listed ∧ Fit f V m) ∧ (conv f V m'.listed ∧ Fit f V m') ∧ (∀ p ∈ withShare S ps 2, conv f V p.listed ∧ Fit f V p) ∧ ConvS f V S := by
          rcases qo with qo | qo
          · exact mid2_to X Y e1 hl hl' qo qF qc
          · have := mid2_to Y (by rw [neg_neg]; exact X) e1 hl hl' (asc_neg.mpr qo) (fitL_neg.mpr qF) (conv_neg.mpr qc)
            simpa only [conv_neg, fit_neg, convS_neg] using this
        refine ⟨fitAny.mp fun p hp => ?_, main.2.2.2⟩
        rcases inE p hp with h | h | h
        · exact q p (List.mem_append_left _ h)
        · simp only [List.mem_cons, List.not_mem_nil, or_false] at h
          rcases h with rfl | rfl
          · exact main.1
          · exact main.2.1
        · exact main.2.2.1 p h
      · cases hU
    · rintro ⟨hF, hS⟩
      have hF := fitAny.mpr hF
      have hcv : ∀ p ∈ ps, conv f V p.listed := fun p hp => (hF p hp).1
      have hft : ∀ p ∈ ps, Fit f V p := fun p hp => (hF p hp).2
      have cU : ∀ {l l'}, sp m = some l → sp m' = some l' → conv f V (listedL (l ++ bundle (withShare S ps 2) ++ l'.reverse)) := fun {l l'} hl hl' => by
        have tp : ∀ x, x ∈ listedL (l ++ bundle (withShare S ps 2) ++ l'.reverse) ↔ ∃ p ∈ ps, rank S p ≠ 0 ∧ x ∈ p.listed := fun x => by
          rw [(each hl hl').2]
          constructor
          · rintro (h | h | h)
            · exact ⟨m, hm.1, by omega, h⟩
            · exact ⟨m', hm'.1, by omega, h⟩
            · obtain ⟨_, _, p, hp, hr, hxp⟩ := X.fullS h
              exact ⟨p, hp, by omega, hxp⟩
          · rintro ⟨p, hp, hr, hxp⟩
            rcases inE p hp with h | h | h
            · exact absurd (mem_share.mp h).2 hr
            · simp only [List.mem_cons, List.not_mem_nil, or_false] at h
              rcases h with rfl | rfl
              · exact .inl hxp
              · exact .inr (.inl hxp)
            · exact .inr (.inr (mem_listedL.mpr ⟨p, h, hxp⟩))
        intro x hx y hy z hz c d
        obtain ⟨p, hp, rp, hxp⟩ := (tp x).mp hx
        obtain ⟨q, hq, rq, hzq⟩ := (tp z).mp hz
        exact (tp y).mpr (X.convU (fun p hp _ => hcv p hp) hS hy hp hq rp rq hxp hzq c d)
      have done : ∀ {l l'}, sp m = some l → sp m' = some l' → (asc f (l ++ bundle (withShare S ps 2) ++ l'.reverse) ∨ asc f (l ++ bundle (withShare S ps 2) ++ l'.reverse).reverse) → (conv f V (listedL (withShare S ps 2)) → FitL f V (l ++ bundle (withShare S ps 2) ++ l'.reverse)) →
          ∃ U, (match sp m, sp m' with | some l, some l' => some (makeAny (withShare S ps 0 ++ [makeRow (l ++ bundle (withShare S ps 2) ++ l'.reverse)])) | _, _ => none) = some U ∧ Fit f V U := fun {l l'} hl hl' ho hf => by
        rw [hl, hl']
        have cF : conv f V (listedL (withShare S ps 2)) := by
          rcases ho with ho | ho
          · have := conv_mid (A := l) (B := bundle (withShare S ps 2)) (C := l'.reverse) ho (cU hl hl')
            rwa [listedL_bundle] at this
          · have := conv_mid (A := l) (B := bundle (withShare S ps 2)) (C := l'.reverse) (asc_neg.mpr ho) (conv_neg.mpr (cU hl hl'))
            rw [listedL_bundle] at this
            exact conv_neg.mp this
        refine ⟨_, rfl, (fit_makeAny (top hl hl')).mpr fun p hp => ?_⟩
        rcases List.mem_append.mp hp with h | h
        · exact hF p (mem_share.mp h).1
        · rw [List.mem_singleton.mp h, listed_makeRow, makeRow_three (each hl hl').1]
          exact ⟨cU hl hl', ho, hf cF⟩
      rcases X.total hcv hm.1 hm'.1 dmm with hlt | hlt
      · obtain ⟨l, l', hl, hl', ha, hf⟩ := mid2_from X Y e1 hcv hft hS hlt
        exact done hl hl' (.inl ha) hf
      · obtain ⟨l, l', hl, hl', ha, hf⟩ := mid2_from Y (by rw [neg_neg]; exact X) e1 (fun p hp => conv_neg.mpr (hcv p hp)) (fun p hp => fit_neg.mpr (hft p hp)) (convS_neg.mpr hS) (lts_neg.mpr hlt)
        exact done hl hl' (.inr (asc_neg.mp ha)) (fun c => fitL_neg.mp (hf (conv_neg.mpr c)))
  · rename_i m m' m'' r e1
    refine ⟨fun h => (by obtain ⟨_, h, _⟩ := h; cases h), fun ⟨hF, hS⟩ => ?_⟩
    exfalso
    have hF := fitAny.mpr hF
    have hcv : ∀ p ∈ ps, conv f V p.listed := fun p hp => (hF p hp).1
    have hm : m ∈ ps ∧ rank S m = 1 := mem_share.mp (e1 ▸ List.mem_cons_self)
    have hm' : m' ∈ ps ∧ rank S m' = 1 := mem_share.mp (e1 ▸ List.mem_cons_of_mem _ List.mem_cons_self)
    have hm'' : m'' ∈ ps ∧ rank S m'' = 1 := mem_share.mp (e1 ▸ List.mem_cons_of_mem _ (List.mem_cons_of_mem _ List.mem_cons_self))
    have hsub : (m :: m' :: m'' :: r).Sublist ps := e1 ▸ List.filter_sublist
    have d1 := two_disjoint X.hn hsub
    have d2 := two_disjoint X.hn (((List.Sublist.refl (m' :: m'' :: r)).cons m).trans hsub)
    have d3 := two_disjoint X.hn ((((List.Sublist.refl (m'' :: r)).cons m').cons_cons m).trans hsub)
    have b : ∀ {p q r : Tree}, p ∈ ps ∧ rank S p = 1 → q ∈ ps ∧ rank S q = 1 → r ∈ ps ∧ rank S r = 1 → lts f p q → lts f q r → False := fun {p q r} hp hq hr h g => by
      have := X.between hS hp.1 hq.1 hr.1 (by omega) (by omega) h g
      omega
    rcases X.total hcv hm.1 hm'.1 d1 with h | h <;> rcases X.total hcv hm'.1 hm''.1 d2 with g | g <;> rcases X.total hcv hm.1 hm''.1 d3 with k | k
    · exact b hm hm' hm'' h g
    · exact b hm hm' hm'' h g
    · exact b hm hm'' hm' k g
    · exact b hm'' hm hm' k h
    · exact b hm' hm hm'' h k
    · exact b hm' hm'' hm g k
    · exact b hm'' hm' hm g h
    · exact b hm'' hm' hm g h

end

section
variable {f : Nat → Int} {V S : List Nat} {sp : Tree → Option (List Tree)} {ps : List Tree}

theorem piece_fit (X : Ctx f V S sp ps) {p : Tree} (hp : p ∈ ps) (hc : conv f V p.listed) :
    (∃ l, piece sp S p = some l ∧ asc f l ∧ FitL f V l) ↔ Fit f V p ∧ (rank S p = 1 → Upper f S p) := by
  unfold piece
  split
  · rename_i hk
    rw [X.hsp p hp hk hc]
    exact ⟨fun h => ⟨h.1, fun _ => h.2⟩, fun h => ⟨h.1, h.2 hk⟩⟩
  · rename_i hk
    refine ⟨fun ⟨l, hl, _, fl⟩ => ?_, fun h => ⟨[p], rfl, asc_one, h.1, trivial⟩⟩
    simp only [Option.some.injEq] at hl
    subst hl
    exact ⟨fl.1, fun q => absurd q hk⟩

theorem asc_sub {A M B la lb : List Tree} {a b : Tree} (ha : ∀ x, x ∈ listedL la ↔ x ∈ a.listed) (hb : ∀ x, x ∈ listedL lb ↔ x ∈ b.listed) :
    asc f (A ++ (la ++ M ++ lb) ++ B) ↔ asc f la ∧ asc f lb ∧ asc f (A ++ ([a] ++ M ++ [b]) ++ B) := by
  simp only [asc_append, listedL_append, List.mem_append, ha, hb, listedL, List.append_nil]
  constructor
  · rintro ⟨⟨hA, ⟨⟨h1, h2, h3⟩, h4, h5⟩, h6⟩, h7, h8⟩
    exact ⟨h1, h4, ⟨⟨hA, ⟨⟨asc_one, h2, h3⟩, asc_one, h5⟩, h6⟩, h7, h8⟩⟩
  · rintro ⟨h1, h4, ⟨⟨hA, ⟨⟨_, h2, h3⟩, _, h5⟩, h6⟩, h7, h8⟩⟩
    exact ⟨⟨hA, ⟨⟨h1, h2, h3⟩, h4, h5⟩, h6⟩, h7, h8⟩

theorem row_shape {A M B : List Tree} {a b : Tree} : A ++ a :: (M ++ b :: B) = A ++ ([a] ++ M ++ [b]) ++ B := by simp

theorem row_to (X : Ctx f V S sp ps) (Y : Ctx (neg f) V S sp ps) {A M B la lb : List Tree} {a b : Tree} (e : ps = A ++ a :: (M ++ b :: B)) (hA : ∀ q ∈ A, rank S q = 0) (hB : ∀ q ∈ B, rank S q = 0)
    (hM : ∀ q ∈ M, rank S q = 2) (hla : piece sp S a = some la) (hlb : piece sp S b = some lb)
    (hasc : asc f (A ++ (la ++ M ++ lb.reverse) ++ B)) (hF : FitL f V (A ++ (la ++ M ++ lb.reverse) ++ B)) : asc f ps ∧ FitL f V ps ∧ ConvS f V S := by
  have ha : a ∈ ps := by rw [e]; simp
  have hb : b ∈ ps := by rw [e]; simp
  have sa := (piece_struct (wfL_iff.mp X.hw a ha) (X.hs a ha) hla).2.1
  have sb := (listedL_perm (List.reverse_perm lb)).trans (piece_struct (wfL_iff.mp X.hw b hb) (X.hs b hb) hlb).2.1
  obtain ⟨ala, alb, aps⟩ := (asc_sub (fun x => sa.mem_iff) (fun x => sb.mem_iff)).mp hasc
  rw [← row_shape, ← e] at aps
  have ca := conv_part aps X.hc ha
  have cb := conv_part aps X.hc hb
  simp only [fitL_append] at hF
  obtain ⟨⟨fA, ⟨fla, fM⟩, flb⟩, fB⟩ := hF
  have qa := (piece_fit X ha ca).mp ⟨la, hla, ala, fla⟩
  have qb := (piece_fit Y hb (conv_neg.mpr cb)).mp ⟨lb, hlb, asc_neg.mpr alb, fitL_neg.mpr ((fitL_perm fun p => (List.reverse_perm lb).mem_iff).mp flb)⟩
  refine ⟨aps, ?_, fun x hx y hy z hz hxS hzS hxy hyz => ?_⟩
  · rw [e, fitL_append]
    refine ⟨fA, qa.1, ?_⟩
    rw [fitL_append]
    exact ⟨fM, fit_neg.mp qb.1, fB⟩
  · have hyT := X.hc x (X.hS x hx hxS) y hy z (X.hS z hz hzS) hxy hyz
    have notA : ∀ w, w ∈ S → w ∉ listedL A := fun w hw hwA => by
      obtain ⟨p, hp, hwp⟩ := mem_listedL.mp hwA
      exact rank_pos hwp hw (hA p hp)
    have notB : ∀ w, w ∈ S → w ∉ listedL B := fun w hw hwB => by
      obtain ⟨p, hp, hwp⟩ := mem_listedL.mp hwB
      exact rank_pos hwp hw (hB p hp)
    have mem : ∀ w, w ∈ listedL ps ↔ w ∈ listedL A ∨ w ∈ a.listed ∨ w ∈ listedL M ∨ w ∈ b.listed ∨ w ∈ listedL B := fun w => by
      rw [e]; simp only [listedL_append, listedL, List.mem_append]
    have inU : ∀ w, w ∈ V → w ∈ S → w ∈ a.listed ∨ w ∈ listedL M ∨ w ∈ b.listed := fun w hw hwS => by
      rcases (mem w).mp (X.hS w hw hwS) with h | h | h | h | h
      · exact absurd h (notA w hwS)
      · exact .inl h
      · exact .inr (.inl h)
      · exact .inr (.inr h)
      · exact absurd h (notB w hwS)
    rw [e, row_shape] at aps
    simp only [asc_append, listedL_append, List.mem_append, listedL, List.append_nil] at aps
    obtain ⟨⟨_, ⟨⟨_, _, aM⟩, _, ab⟩, cA⟩, _, cB⟩ := aps
    have full : ∀ {p : Tree}, p ∈ ps → rank S p = 2 → ∀ w ∈ p.listed, w ∈ S := fun hp hr => (rank_two (X.p0 hp)).mp hr
    rcases (mem y).mp hyT with h | h | h | h | h
    · have := cA y h x ((inU x hx hxS).elim (fun g => .inl (.inl g)) (fun g => g.elim (fun g => .inl (.inr g)) .inr))
      omega
    · rcases inU x hx hxS with g | g | g
      · by_cases k : rank S a = 1
        · exact qa.2 k x g y h hxS hxy
        · have : rank S a = 2 := by
            have := rank_pos g hxS
            rcases rank_cases S a with z | z | z <;> omega
          exact full ha this y h
      · have := aM y h x g; omega
      · have := ab y (.inl h) x g; omega
    · obtain ⟨p, hp, hyp⟩ := mem_listedL.mp h
      exact full (by rw [e]; simp [hp]) (hM p hp) y hyp
    · rcases inU z hz hzS with g | g | g
      · have := ab z (.inl g) y h; omega
      · have := ab z (.inr g) y h; omega
      · by_cases k : rank S b = 1
        · exact qb.2 k z g y h hzS (by simp only [neg]; omega)
        · have : rank S b = 2 := by
            have := rank_pos g hzS
            rcases rank_cases S b with z | z | z <;> omega
          exact full hb this y h
    · have := cB z (.inr ((inU z hz hzS).elim (fun g => .inl (.inl g)) (fun g => g.elim (fun g => .inl (.inr g)) .inr))) y h
      omega

theorem row_from (X : Ctx f V S sp ps) (Y : Ctx (neg f) V S sp ps) {A M B : List Tree} {a b : Tree} (e : ps = A ++ a :: (M ++ b :: B)) (ra : rank S a ≠ 0) (rb : rank S b ≠ 0)
    (aps : asc f ps) (hF : FitL f V ps) (hS : ConvS f V S) :
    (∀ q ∈ M, rank S q = 2) ∧ ∃ la lb, piece sp S a = some la ∧ piece sp S b = some lb ∧ asc f (A ++ (la ++ M ++ lb.reverse) ++ B) ∧ FitL f V (A ++ (la ++ M ++ lb.reverse) ++ B) := by
  have ha : a ∈ ps := by rw [e]; simp
  have hb : b ∈ ps := by rw [e]; simp
  have ca := conv_part aps X.hc ha
  have cb := conv_part aps X.hc hb
  have aps0 := aps
  rw [e, row_shape] at aps
  simp only [asc_append, listedL_append, List.mem_append, listedL, List.append_nil] at aps
  obtain ⟨⟨_, ⟨⟨_, _, aM⟩, _, ab⟩, cA⟩, _, cB⟩ := aps
  obtain ⟨s, hs, hsS⟩ := rank_ne ra
  obtain ⟨t, ht, htS⟩ := rank_ne rb
  have ft := fitL_iff.mp hF
  have hfull : ∀ q ∈ M, rank S q = 2 := fun q hq => by
    have hqp : q ∈ ps := by rw [e]; simp [hq]
    refine (rank_two (X.p0 hqp)).mpr fun y hy => ?_
    have hyM := mem_listedL.mpr ⟨q, hq, hy⟩
    exact hS s (X.v ha hs) y (X.v hqp hy) t (X.v hb ht) hsS htS (aM s hs y hyM) (ab y (.inr hyM) t ht)
  obtain ⟨la, hla, ala, fla⟩ := (piece_fit X ha ca).mpr ⟨ft a ha, fun _ x hx y hy hxS hxy => hS x (X.v ha hx) y (X.v ha hy) t (X.v hb ht) hxS htS hxy (ab y (.inl hy) t ht)⟩
  obtain ⟨lb, hlb, alb, flb⟩ := (piece_fit Y hb (conv_neg.mpr cb)).mpr ⟨fit_neg.mpr (ft b hb), fun _ x hx y hy hxS hxy => hS s (X.v ha hs) y (X.v hb hy) x (X.v hb hx) hsS hxS (ab s (.inl hs) y hy) (by simp only [neg] at hxy; omega)⟩
  have sa := (piece_struct (wfL_iff.mp X.hw a ha) (X.hs a ha) hla).2.1
  have sb := (listedL_perm (List.reverse_perm lb)).trans (piece_struct (wfL_iff.mp X.hw b hb) (X.hs b hb) hlb).2.1
  refine ⟨hfull, la, lb, hla, hlb, (asc_sub (fun x => sa.mem_iff) (fun x => sb.mem_iff)).mpr ⟨ala, asc_neg.mp alb, by rw [← row_shape, ← e]; exact aps0⟩, ?_⟩
  simp only [fitL_append]
  rw [e, fitL_append] at hF
  obtain ⟨fA, _, h2⟩ : FitL f V A ∧ Fit f V a ∧ FitL f V (M ++ b :: B) := hF
  rw [fitL_append] at h2
  exact ⟨⟨fA, ⟨fla, h2.1⟩, (fitL_perm fun p => (List.reverse_perm lb).mem_iff).mpr (fitL_neg.mp flb)⟩, h2.2.2⟩

theorem joinedRow_fit (X : Ctx f V S sp ps) (Y : Ctx (neg f) V S sp ps) (h3 : 3 ≤ ps.length) (h0 : touched S ps ≠ []) (h1 : ∀ t, touched S ps ≠ [t]) :
    (∃ U, joinedRow sp S ps = some U ∧ Fit f V U) ↔ Fit f V (.row ps) ∧ ConvS f V S := by
  have Z : Ctx (neg (neg f)) V S sp ps := by rw [neg_neg]; exact X
  obtain ⟨A, a, M, b, B, e, t1, t2, ra, rb, hA, hB⟩ := touched_more h0 h1
  rw [joinedRow_at e t1 t2]
  have long : ∀ {la lb}, piece sp S a = some la → piece sp S b = some lb → 3 ≤ (A ++ (la ++ M ++ lb.reverse) ++ B).length := fun hla hlb => by
    have ha : a ∈ ps := by rw [e]; simp
    have hb : b ∈ ps := by rw [e]; simp
    have k1 := (piece_struct (wfL_iff.mp X.hw a ha) (X.hs a ha) hla).1
    have k2 := (piece_struct (wfL_iff.mp X.hw b hb) (X.hs b hb) hlb).1
    rw [e] at h3
    simp only [List.length_append, List.length_cons, List.length_reverse] at h3 ⊢
    omega
  constructor
  · rintro ⟨U, hU, hF⟩
    split at hU
    · rename_i hM
      split at hU
      · rename_i la lb hla hlb
        simp only [Option.some.injEq] at hU
        subst hU
        rw [makeRow_three (long hla hlb)] at hF
        obtain ⟨ho, hF⟩ := hF
        rcases ho with ho | ho
        · obtain ⟨a1, a2, a3⟩ := row_to X Y e hA hB hM hla hlb ho hF
          exact ⟨⟨.inl a1, a2⟩, a3⟩
        · obtain ⟨a1, a2, a3⟩ := row_to Y Z e hA hB hM hla hlb (asc_neg.mpr ho) (fitL_neg.mpr hF)
          exact ⟨⟨.inr (asc_neg.mp a1), fitL_neg.mp a2⟩, convS_neg.mp a3⟩
      · cases hU
    · cases hU
  · rintro ⟨⟨ho, hF⟩, hS⟩
    rcases ho with ho | ho
    · obtain ⟨hM, la, lb, hla, hlb, h5, h6⟩ := row_from X Y e ra rb ho hF hS
      rw [if_pos hM, hla, hlb]
      refine ⟨_, rfl, ?_⟩
      rw [makeRow_three (long hla hlb)]
      exact ⟨.inl h5, h6⟩
    · obtain ⟨hM, la, lb, hla, hlb, h5, h6⟩ := row_from Y Z e ra rb (asc_neg.mpr ho) (fitL_neg.mpr hF) (convS_neg.mpr hS)
      rw [if_pos hM, hla, hlb]
      refine ⟨_, rfl, ?_⟩
      rw [makeRow_three (long hla hlb)]
      exact ⟨.inr (asc_neg.mp h5), fitL_neg.mp h6⟩

end

theorem full_case {f : Nat → Int} {V S : List Nat} {T : Tree} (hV : ∀ x ∈ T.listed, x ∈ V) (hc : conv f V T.listed) (hS : ∀ x ∈ V, x ∈ S → x ∈ T.listed) (h : ∀ x ∈ T.listed, x ∈ S) : ConvS f V S :=
  fun x hx y hy z hz hxS hzS h1 h2 => h y (hc x (hS x hx hxS) y hy z (hS z hz hzS) h1 h2)

theorem joined_fit {f : Nat → Int} {V S : List Nat} (hi : Inj f V) : ∀ {k : Nat} {T : Tree}, T.depth ≤ k → T.Wf → T.listed.Nodup → (∀ x ∈ T.listed, x ∈ V) → conv f V T.listed →
    (∀ x ∈ V, x ∈ S → x ∈ T.listed) → rank S T ≠ 0 → ((∃ U, joined S k T = some U ∧ Fit f V U) ↔ Fit f V T ∧ ConvS f V S)
  | k, .thing t, _, _, _, hV, hc, hS, h0 => by
    have e : joined S k (.thing t) = some (.thing t) := by cases k <;> rfl
    rw [e]
    have hf : ∀ x ∈ (Tree.thing t).listed, x ∈ S := fun x hx => by
      obtain ⟨y, hy, hyS⟩ := rank_ne h0
      simp only [Tree.listed, List.mem_singleton] at hx hy
      subst hx hy
      exact hyS
    exact ⟨fun _ => ⟨trivial, full_case hV hc hS hf⟩, fun _ => ⟨_, rfl, trivial⟩⟩
  | 0, .any ps, hd, _, _, _, _, _, _ => by simp [Tree.depth] at hd
  | 0, .row ps, hd, _, _, _, _, _, _ => by simp [Tree.depth] at hd
  | k + 1, .any ps, hd, hw, hn, hV, hc, hS, h0 => by
    have hd' := depthL_le.mp (show depthL ps ≤ k by simp only [Tree.depth] at hd; omega)
    have X : ∀ g, Inj g V → conv g V (listedL ps) → Ctx g V S (split S k) ps := fun g hg hcg => ⟨hg, hw.2, hn, hV, fun p hp l hk hl => split_struct (wfL_iff.mp hw.2 p hp) hk hl,
      fun p hp hk => split_fit hg (hd' p hp) (wfL_iff.mp hw.2 p hp) (nodup_part hn hp) (fun x hx => hV x (mem_listedL.mpr ⟨p, hp, hx⟩)) hk, hcg, hS⟩
    rw [joined]
    split
    · rename_i hk
      have := full_case hV hc hS ((rank_two (listed_pos _ hw)).mp hk)
      exact ⟨fun ⟨U, hU, hF⟩ => ⟨by simp only [Option.some.injEq] at hU; rw [hU]; exact hF, this⟩, fun h => ⟨_, rfl, h.1⟩⟩
    split
    · rename_i t ht
      obtain ⟨A, p, B, e, hA, hr, hA0, hB0, hg⟩ := touched_one ht
      have hp : p ∈ ps := by rw [e]; simp
      rw [hg]
      have hSp : ∀ x ∈ V, x ∈ S → x ∈ p.listed := fun x hx hxS => by
        obtain ⟨q, hq, hxq⟩ := mem_listedL.mp (hS x hx hxS)
        rw [e] at hq
        rcases List.mem_append.mp hq with h | h
        · exact absurd (hA0 q h) (rank_pos hxq hxS)
        · rcases List.mem_cons.mp h with rfl | h
          · exact hxq
          · exact absurd (hB0 q h) (rank_pos hxq hxS)
      have ih : conv f V p.listed → ((∃ U, joined S k p = some U ∧ Fit f V U) ↔ Fit f V p ∧ ConvS f V S) := fun hcp =>
        joined_fit hi (hd' p hp) (wfL_iff.mp hw.2 p hp) (nodup_part hn hp) (fun x hx => hV x (mem_listedL.mpr ⟨p, hp, hx⟩)) hcp hSp hr
      have es : ∀ q, ps.set t q = A ++ q :: B := fun q => by rw [e, ← hA, List.set_append_right _ _ (Nat.le_refl _)]; simp
      constructor
      · rintro ⟨U, hU, hF⟩
        split at hU
        · cases hU
        · rename_i q hq
          simp only [Option.some.injEq] at hU
          subst hU
          rw [es] at hF
          obtain ⟨p1, _⟩ := joined_struct (wfL_iff.mp hw.2 p hp) hr hq
          have hcq := hF.1 q (by simp)
          have hF2 := fitL_iff.mp hF.2
          have hcp : conv f V p.listed := (conv_congr fun x => p1.mem_iff).mp hcq
          have r := (ih hcp).mp ⟨q, hq, hF2 q (by simp)⟩
          refine ⟨⟨fun p' hp' => ?_, fitL_iff.mpr fun p' hp' => ?_⟩, r.2⟩ <;> rw [e] at hp' <;> rcases List.mem_append.mp hp' with h | h
          · exact hF.1 p' (List.mem_append_left _ h)
          · rcases List.mem_cons.mp h with rfl | h
            · exact hcp
            · exact hF.1 p' (List.mem_append_right _ (List.mem_cons_of_mem _ h))
          · exact hF2 p' (List.mem_append_left _ h)
          · rcases List.mem_cons.mp h with rfl | h
            · exact r.1
            · exact hF2 p' (List.mem_append_right _ (List.mem_cons_of_mem _ h))
      · rintro ⟨hF, hcS⟩
        have hF2 := fitL_iff.mp hF.2
        have hcp := hF.1 p hp
        obtain ⟨q, hq, fq⟩ := (ih hcp).mpr ⟨hF2 p hp, hcS⟩
        obtain ⟨p1, _⟩ := joined_struct (wfL_iff.mp hw.2 p hp) hr hq
        rw [hq]
        refine ⟨_, rfl, ?_⟩
        rw [es]
        refine ⟨fun p' hp' => ?_, fitL_iff.mpr fun p' hp' => ?_⟩ <;> rcases List.mem_append.mp hp' with h | h
        · exact hF.1 p' (by rw [e]; exact List.mem_append_left _ h)
        · rcases List.mem_cons.mp h with rfl | h
          · exact (conv_congr fun x => p1.mem_iff).mpr hcp
          · exact hF.1 p' (by rw [e]; exact List.mem_append_right _ (List.mem_cons_of_mem _ h))
        · exact hF2 p' (by rw [e]; exact List.mem_append_left _ h)
        · rcases List.mem_cons.mp h with rfl | h
          · exact fq
          · exact hF2 p' (by rw [e]; exact List.mem_append_right _ (List.mem_cons_of_mem _ h))
    · rename_i hne
      exact joinedAny_fit (X f hi hc) (X (neg f) (inj_neg hi) (conv_neg.mpr hc)) (fun z => h0 (rank_zero.mpr (rank_any_zero z))) hne
  | k + 1, .row ps, hd, hw, hn, hV, hc, hS, h0 => by
    have hd' := depthL_le.mp (show depthL ps ≤ k by simp only [Tree.depth] at hd; omega)
    have X : ∀ g, Inj g V → conv g V (listedL ps) → Ctx g V S (split S k) ps := fun g hg hcg => ⟨hg, hw.2, hn, hV, fun p hp l hk hl => split_struct (wfL_iff.mp hw.2 p hp) hk hl,
      fun p hp hk => split_fit hg (hd' p hp) (wfL_iff.mp hw.2 p hp) (nodup_part hn hp) (fun x hx => hV x (mem_listedL.mpr ⟨p, hp, hx⟩)) hk, hcg, hS⟩
    rw [joined]
    split
    · rename_i hk
      have := full_case hV hc hS ((rank_two (listed_pos _ hw)).mp hk)
      exact ⟨fun ⟨U, hU, hF⟩ => ⟨by simp only [Option.some.injEq] at hU; rw [hU]; exact hF, this⟩, fun h => ⟨_, rfl, h.1⟩⟩
    split
    · rename_i t ht
      obtain ⟨A, p, B, e, hA, hr, hA0, hB0, hg⟩ := touched_one ht
      have hp : p ∈ ps := by rw [e]; simp
      rw [hg]
      have hSp : ∀ x ∈ V, x ∈ S → x ∈ p.listed := fun x hx hxS => by
        obtain ⟨q, hq, hxq⟩ := mem_listedL.mp (hS x hx hxS)
        rw [e] at hq
        rcases List.mem_append.mp hq with h | h
        · exact absurd (hA0 q h) (rank_pos hxq hxS)
        · rcases List.mem_cons.mp h with rfl | h
          · exact hxq
          · exact absurd (hB0 q h) (rank_pos hxq hxS)
      have ih : conv f V p.listed → ((∃ U, joined S k p = some U ∧ Fit f V U) ↔ Fit f V p ∧ ConvS f V S) := fun hcp =>
        joined_fit hi (hd' p hp) (wfL_iff.mp hw.2 p hp) (nodup_part hn hp) (fun x hx => hV x (mem_listedL.mpr ⟨p, hp, hx⟩)) hcp hSp hr
      have es : ∀ q, ps.set t q = A ++ q :: B := fun q => by rw [e, ← hA, List.set_append_right _ _ (Nat.le_refl _)]; simp
      have swap : ∀ {g : Nat → Int} {q : Tree}, (∀ x, x ∈ q.listed ↔ x ∈ p.listed) → (asc g (A ++ q :: B) ↔ asc g ps) := fun {g q} hq => by
        have e1 : ∀ r, A ++ r :: B = A ++ [r] ++ B := fun r => by simp
        rw [e, e1, e1]
        simp only [asc_append, listedL_append, List.mem_append, listedL, List.append_nil, hq]
        constructor <;> rintro ⟨⟨h1, _, h2⟩, h3⟩ <;> exact ⟨⟨h1, asc_one, h2⟩, h3⟩
      have cpart : (asc f ps ∨ asc f ps.reverse) → conv f V p.listed := fun h => by
        rcases h with h | h
        · exact conv_part h hc hp
        · exact conv_neg.mp (conv_part (asc_neg.mpr h) (conv_neg.mpr hc) hp)
      have swap2 : ∀ {q : Tree}, (∀ x, x ∈ q.listed ↔ x ∈ p.listed) → ((asc f (A ++ q :: B) ∨ asc f (A ++ q :: B).reverse) ↔ (asc f ps ∨ asc f ps.reverse)) := fun hq => by
        rw [swap hq, ← asc_neg, swap hq, asc_neg]
      constructor
      · rintro ⟨U, hU, hF⟩
        split at hU
        · cases hU
        · rename_i q hq
          simp only [Option.some.injEq] at hU
          subst hU
          rw [es] at hF
          obtain ⟨p1, _⟩ := joined_struct (wfL_iff.mp hw.2 p hp) hr hq
          have hF2 := fitL_iff.mp hF.2
          have ho := (swap2 fun x => p1.mem_iff).mp hF.1
          have r := (ih (cpart ho)).mp ⟨q, hq, hF2 q (by simp)⟩
          refine ⟨⟨ho, fitL_iff.mpr fun p' hp' => ?_⟩, r.2⟩
          rw [e] at hp'
          rcases List.mem_append.mp hp' with h | h
          · exact hF2 p' (List.mem_append_left _ h)
          · rcases List.mem_cons.mp h with rfl | h
            · exact r.1
            · exact hF2 p' (List.mem_append_right _ (List.mem_cons_of_mem _ h))
      · rintro ⟨hF, hcS⟩
        have hF2 := fitL_iff.mp hF.2
        obtain ⟨q, hq, fq⟩ := (ih (cpart hF.1)).mpr ⟨hF2 p hp, hcS⟩
        obtain ⟨p1, _⟩ := joined_struct (wfL_iff.mp hw.2 p hp) hr hq
        rw [hq]
        refine ⟨_, rfl, ?_⟩
        rw [es]
        refine ⟨(swap2 fun x => p1.mem_iff).mpr hF.1, fitL_iff.mpr fun p' hp' => ?_⟩
        rcases List.mem_append.mp hp' with h | h
        · exact hF2 p' (by rw [e]; exact List.mem_append_left _ h)
        · rcases List.mem_cons.mp h with rfl | h
          · exact fq
          · exact hF2 p' (by rw [e]; exact List.mem_append_right _ (List.mem_cons_of_mem _ h))
    · rename_i hne
      exact joinedRow_fit (X f hi hc) (X (neg f) (inj_neg hi) (conv_neg.mpr hc)) hw.1 (fun z => h0 (rank_zero.mpr (rank_any_zero z))) hne

/-! ### the normal form tells the same orders -/

inductive All2 {α β : Type} (R : α → β → Prop) : List α → List β → Prop
  | nil : All2 R [] []
  | cons {a b r s} : R a b → All2 R r s → All2 R (a :: r) (b :: s)

/-- U tells the orders of T -/
def Alike (T U : Tree) : Prop := U.listed.Perm T.listed ∧ (T.Wf → U.Wf) ∧ ∀ f V, Fit f V U ↔ Fit f V T
theorem Alike.refl (T : Tree) : Alike T T := ⟨.refl _, id, fun _ _ => Iff.rfl⟩
theorem Alike.trans {T U W : Tree} (a : Alike T U) (b : Alike U W) : Alike T W := ⟨b.1.trans a.1, fun h => b.2.1 (a.2.1 h), fun f V => (b.2.2 f V).trans (a.2.2 f V)⟩

theorem All2.length {α β : Type} {R : α → β → Prop} {l : List α} {m : List β} (h : All2 R l m) : l.length = m.length := by
  induction h with
  | nil => rfl
  | cons _ _ ih => simp [ih]

theorem alikeL {ps qs : List Tree} (h : All2 Alike ps qs) : (listedL qs).Perm (listedL ps) ∧ (WfL ps → WfL qs) ∧ (∀ f V, FitL f V qs ↔ FitL f V ps) ∧
    (∀ f V, (∀ q ∈ qs, conv f V q.listed) ↔ ∀ p ∈ ps, conv f V p.listed) ∧ (∀ f, asc f qs ↔ asc f ps) := by
  induction h with
  | nil => exact ⟨.refl _, id, fun _ _ => Iff.rfl, fun _ _ => Iff.rfl, fun _ => Iff.rfl⟩
  | @cons a b r s hab hr ih =>
    obtain ⟨i1, i2, i3, i4, i5⟩ := ih
    have hm : ∀ x, x ∈ b.listed ↔ x ∈ a.listed := fun x => hab.1.mem_iff
    refine ⟨hab.1.append i1, fun h => ⟨hab.2.1 h.1, i2 h.2⟩, fun f V => and_congr (hab.2.2 f V) (i3 f V), fun f V => ?_, fun f => ?_⟩
    · simp only [List.mem_cons, forall_eq_or_imp, i4, conv_congr hm]
    · have e : ∀ (p : Tree) (ps : List Tree), asc f (p :: ps) ↔ asc f ps ∧ ∀ x ∈ p.listed, ∀ y ∈ listedL ps, f x < f y := fun p ps => by
        have := asc_append (f := f) (a := [p]) (b := ps)
        simp only [List.singleton_append, listedL, List.append_nil] at this
        rw [this]
        exact ⟨fun h => h.2, fun h => ⟨asc_one, h⟩⟩
      rw [e, e, i5]
      simp only [hm, i1.mem_iff]

theorem fit_any {f : Nat → Int} {V : List Nat} {ps : List Tree} : Fit f V (.any ps) ↔ (∀ p ∈ ps, conv f V p.listed) ∧ FitL f V ps := Iff.rfl
theorem fit_row {f : Nat → Int} {V : List Nat} {ps : List Tree} : Fit f V (.row ps) ↔ (asc f ps ∨ asc f ps.reverse) ∧ FitL f V ps := Iff.rfl

theorem alike_any {ps qs rs : List Tree} (h : All2 Alike ps qs) (hp : rs.Perm qs) : Alike (.any ps) (.any rs) := by
  obtain ⟨i1, i2, i3, i4, _⟩ := alikeL h
  refine ⟨(listedL_perm hp).trans i1, fun w => ⟨by have := w.1; rw [hp.length_eq, ← h.length]; exact this, wfL_perm hp (i2 w.2)⟩, fun f V => ?_⟩
  rw [fit_any, fit_any, ← i4, ← i3, fitL_perm fun p => hp.mem_iff]
  simp only [hp.mem_iff]

theorem alike_row {ps qs rs : List Tree} (h : All2 Alike ps qs) (hp : rs = qs ∨ rs = qs.reverse) : Alike (.row ps) (.row rs) := by
  obtain ⟨i1, i2, i3, _, i5⟩ := alikeL h
  have i6 : ∀ f, asc f qs.reverse ↔ asc f ps.reverse := fun f => by rw [← asc_neg, ← asc_neg, i5]
  have pm : rs.Perm qs := by
    rcases hp with rfl | rfl
    · exact .refl _
    · exact List.reverse_perm qs
  refine ⟨(listedL_perm pm).trans i1, fun w => ⟨by have := w.1; rw [pm.length_eq, ← h.length]; exact this, wfL_perm pm (i2 w.2)⟩, fun f V => ?_⟩
  rw [fit_row, fit_row, ← i3, fitL_perm fun p => pm.mem_iff]
  refine and_congr ?_ Iff.rfl
  rcases hp with rfl | rfl
  · rw [i5, i6]
  · rw [List.reverse_reverse, i5, i6, or_comm]

/-! ### the tree of all orders, and the order in which the things are written -/

def things (n : Nat) : List Tree := (List.range n).map Tree.thing
theorem listed_things : ∀ l : List Nat, listedL (l.map Tree.thing) = l
  | [] => rfl
  | a :: l => by simp [listedL, Tree.listed, listed_things l]
theorem wf_things (l : List Nat) : WfL (l.map Tree.thing) := wfL_iff.mpr fun p hp => by
  obtain ⟨x, _, rfl⟩ := List.mem_map.mp hp
  trivial

theorem plain_fit {n : Nat} {f : Nat → Int} {V : List Nat} : Fit f V (makeAny (things n)) := by
  have each : ∀ p ∈ things n, conv f V p.listed ∧ Fit f V p := fun p hp => by
    obtain ⟨x, _, rfl⟩ := List.mem_map.mp hp
    refine ⟨fun a ha y _ z hz h1 h2 => ?_, trivial⟩
    simp only [Tree.listed, List.mem_singleton] at ha hz
    subst ha hz
    omega
  unfold makeAny
  split
  · rename_i p e
    exact (each p (by rw [e]; simp)).2
  · exact ⟨fun p hp => (each p hp).1, fitL_iff.mpr fun p hp => (each p hp).2⟩

/-- the place in a list -/
def pos (l : List Nat) (x : Nat) : Int := (l.idxOf x : Int)
theorem pos_inj {l : List Nat} : Inj (pos l) l := fun x hx y hy h => by
  have h' : l.idxOf x = l.idxOf y := by simp only [pos] at h; omega
  have hx' := List.idxOf_lt_length_of_mem hx
  have hy' := List.idxOf_lt_length_of_mem hy
  have a : l[l.idxOf x] = x := List.getElem_idxOf hx'
  have b : l[l.idxOf y] = y := List.getElem_idxOf hy'
  rw [← a, ← b]
  simp only [h']

theorem pos_block {pre b post : List Nat} (hn : (pre ++ b ++ post).Nodup) {x : Nat} (hx : x ∈ pre ++ b ++ post) :
    x ∈ b ↔ (pre.length : Int) ≤ pos (pre ++ b ++ post) x ∧ pos (pre ++ b ++ post) x < pre.length + b.length := by
  rw [List.nodup_append, List.nodup_append] at hn
  obtain ⟨⟨n1, n2, n3⟩, n4, n5⟩ := hn
  unfold pos
  rw [List.append_assoc, List.idxOf_append]
  rw [List.mem_append, List.mem_append] at hx
  by_cases hp : x ∈ pre
  · have hb : x ∉ b := fun h => n3 x hp x h rfl
    have := List.idxOf_lt_length_of_mem hp
    rw [if_pos hp]
    exact ⟨fun h => absurd h hb, fun h => by omega⟩
  · rw [if_neg hp, List.idxOf_append]
    by_cases hb : x ∈ b
    · have := List.idxOf_lt_length_of_mem hb
      rw [if_pos hb]
      exact ⟨fun _ => by omega, fun _ => hb⟩
    · rw [if_neg hb]
      exact ⟨fun h => absurd h hb, fun h => by omega⟩

theorem conv_block {pre b post V : List Nat} (hn : (pre ++ b ++ post).Nodup) (hV : ∀ x ∈ V, x ∈ pre ++ b ++ post) : conv (pos (pre ++ b ++ post)) V b := fun x hx y hy z hz h1 h2 => by
  have mem : ∀ w, w ∈ b → w ∈ pre ++ b ++ post := fun w hw => List.mem_append_left _ (List.mem_append_right _ hw)
  have a := (pos_block hn (mem x hx)).mp hx
  have c := (pos_block hn (mem z hz)).mp hz
  exact (pos_block hn (hV y hy)).mpr ⟨by omega, by omega⟩

mutual
theorem written_fit {l V : List Nat} (hn : l.Nodup) (hV : ∀ x ∈ V, x ∈ l) : ∀ (T : Tree) (pre post : List Nat), l = pre ++ T.listed ++ post → Fit (pos l) V T
  | .thing _, _, _, _ => trivial
  | .any ps, pre, post, e => by
    obtain ⟨a, b, _⟩ := written_fitL hn hV ps pre post e
    exact ⟨b, a⟩
  | .row ps, pre, post, e => by
    obtain ⟨a, _, c⟩ := written_fitL hn hV ps pre post e
    exact ⟨.inl c, a⟩
theorem written_fitL {l V : List Nat} (hn : l.Nodup) (hV : ∀ x ∈ V, x ∈ l) : ∀ (ps : List Tree) (pre post : List Nat), l = pre ++ listedL ps ++ post → FitL (pos l) V ps ∧ (∀ p ∈ ps, conv (pos l) V p.listed) ∧ asc (pos l) ps
  | [], _, _, _ => ⟨trivial, fun p h => absurd h List.not_mem_nil, asc_nil⟩
  | p :: ps, pre, post, e => by
    have e1 : l = pre ++ p.listed ++ (listedL ps ++ post) := by rw [e]; simp [listedL]
    have e2 : l = (pre ++ p.listed) ++ listedL ps ++ post := by rw [e]; simp [listedL]
    obtain ⟨a, b, c⟩ := written_fitL hn hV ps (pre ++ p.listed) post e2
    have hp := written_fit hn hV p pre (listedL ps ++ post) e1
    have cp : conv (pos l) V p.listed := by
      have := conv_block (e1 ▸ hn) (fun x hx => e1 ▸ hV x hx)
      rwa [← e1] at this
    refine ⟨⟨hp, a⟩, fun q hq => ?_, List.pairwise_cons.mpr ⟨fun q hq x hx y hy => ?_, c⟩⟩
    · rcases List.mem_cons.mp hq with rfl | hq
      · exact cp
      · exact b q hq
    · have hyL : y ∈ listedL ps := mem_listedL.mpr ⟨q, hq, hy⟩
      have h1 := (pos_block (e1 ▸ hn) (x := x) (by rw [← e1, e]; simp [listedL, hx])).mp hx
      have h2 := (pos_block (e2 ▸ hn) (x := y) (by rw [← e2, e]; simp [listedL, hyL])).mp hyL
      rw [← e1] at h1
      rw [← e2, List.length_append] at h2
      omega
end

/-! ### the tree of a table -/

def Fits (f : Nat → Int) (V : List Nat) (sets : List (List Nat)) : Prop := ∀ S ∈ sets, ConvS f V S

/-- T tells the orders of n things that fit the sets -/
def TreeFor (n : Nat) (sets : List (List Nat)) (T : Tree) : Prop :=
  T.listed.Perm (List.range n) ∧ T.Wf ∧ ∀ f, Inj f (List.range n) → (Fit f (List.range n) T ↔ Fits f (List.range n) sets)
def NoTree (n : Nat) (sets : List (List Nat)) : Prop := ∀ f, Inj f (List.range n) → ¬ Fits f (List.range n) sets

theorem TreeFor.alike {n : Nat} {sets : List (List Nat)} {T U : Tree} (h : TreeFor n sets T) (a : Alike T U) : TreeFor n sets U :=
  ⟨a.1.trans h.1, a.2.1 h.2.1, fun f hi => (a.2.2 f _).trans (h.2.2 f hi)⟩
theorem TreeFor.depth {n : Nat} {sets : List (List Nat)} {T : Tree} (h : TreeFor n sets T) : T.depth < n := by
  have := depth_lt T h.2.1
  rw [h.1.length_eq, List.length_range] at this
  exact this
theorem plain_for {n : Nat} (h : 1 ≤ n) : TreeFor n [] (makeAny (things n)) := by
  refine ⟨?_, wf_makeAny ?_ (wf_things _), fun f _ => ⟨fun _ S hS => absurd hS List.not_mem_nil, fun _ => plain_fit⟩⟩
  · rw [listed_makeAny, things, listed_things]
  · intro e
    have := congrArg List.length e
    simp [things] at this
    omega
theorem fits_snoc {f : Nat → Int} {V S : List Nat} {sets : List (List Nat)} : Fits f V (sets ++ [S]) ↔ Fits f V sets ∧ ConvS f V S := by
  unfold Fits
  simp only [List.mem_append, List.mem_singleton]
  exact ⟨fun h => ⟨fun T hT => h T (.inl hT), h S (.inr rfl)⟩, fun h T hT => hT.elim (h.1 T) (fun e => e ▸ h.2)⟩

/-- a set of at most one thing asks nothing -/
theorem TreeFor.small {n : Nat} {sets : List (List Nat)} {T : Tree} (h : TreeFor n sets T) {S : List Nat} (hS : S.length < 2) : TreeFor n (sets ++ [S]) T := by
  refine ⟨h.1, h.2.1, fun f hi => ?_⟩
  rw [h.2.2 f hi, fits_snoc]
  refine ⟨fun q => ⟨q, fun x _ y _ z _ hxS hzS h1 h2 => ?_⟩, fun q => q.1⟩
  match S, hS with
  | [], _ => cases hxS
  | [a], _ =>
    rw [List.mem_singleton] at hxS hzS
    subst hxS hzS
    omega

theorem TreeFor.step {n k : Nat} {sets : List (List Nat)} {T : Tree} (h : TreeFor n sets T) (hk : T.depth ≤ k) {S : List Nat} (hS : ∀ x ∈ S, x < n) (h0 : S ≠ []) :
    (∀ U, joined S k T = some U → TreeFor n (sets ++ [S]) U) ∧ (joined S k T = none → NoTree n (sets ++ [S])) := by
  have mem : ∀ x, x ∈ T.listed ↔ x ∈ List.range n := fun x => h.1.mem_iff
  have hr : rank S T ≠ 0 := by
    obtain ⟨x, hx⟩ := List.exists_mem_of_ne_nil S h0
    exact rank_pos ((mem x).mpr (List.mem_range.mpr (hS x hx))) hx
  have key : ∀ f, Inj f (List.range n) → ((∃ U, joined S k T = some U ∧ Fit f (List.range n) U) ↔ Fits f (List.range n) (sets ++ [S])) := fun f hi => by
    rw [fits_snoc, ← h.2.2 f hi]
    refine joined_fit hi hk h.2.1 (h.1.nodup_iff.mpr List.nodup_range) (fun x hx => (mem x).mp hx) (fun x _ y hy _ _ _ _ => (mem y).mpr hy) (fun x hx _ => (mem x).mpr hx) hr
  refine ⟨fun U hU => ?_, fun hN f hi hF => ?_⟩
  · obtain ⟨a, b⟩ := joined_struct h.2.1 hr hU
    refine ⟨a.trans h.1, b, fun f hi => ?_⟩
    rw [← key f hi]
    refine ⟨fun q => ⟨U, hU, q⟩, fun ⟨U', hU', q⟩ => ?_⟩
    rw [hU] at hU'
    cases hU'
    exact q
  · obtain ⟨U, hU, _⟩ := (key f hi).mpr hF
    rw [hN] at hU
    cases hU

theorem TreeFor.order {n : Nat} {sets : List (List Nat)} {T : Tree} (h : TreeFor n sets T) : ∃ f, Inj f (List.range n) ∧ Fits f (List.range n) sets := by
  have hn := h.1.nodup_iff.mpr List.nodup_range
  have hi : Inj (pos T.listed) (List.range n) := fun x hx y hy e => pos_inj x (h.1.mem_iff.mpr hx) y (h.1.mem_iff.mpr hy) e
  refine ⟨pos T.listed, hi, (h.2.2 _ hi).mp ?_⟩
  exact written_fit hn (fun x hx => h.1.mem_iff.mpr hx) T [] [] (by simp)

theorem NoTree.more {n : Nat} {sets more : List (List Nat)} (h : NoTree n sets) : NoTree n (sets ++ more) := fun f hi hF => h f hi fun S hS => hF S (List.mem_append_left _ hS)

/-! ### papers -/

def st (sets : List (List Nat)) (i : Nat) : List Nat := sets.getD i []

/-- two sets have a thing in common -/
def Meet (S T : List Nat) : Prop := ∃ t, t ∈ S ∧ t ∈ T
instance (S T : List Nat) : Decidable (Meet S T) := decidable_of_iff (∃ t ∈ S, t ∈ T) Iff.rfl

/-- each two neighbours have a thing in common -/
def Steps (sets : List (List Nat)) : List Nat → Prop
  | [] => True
  | [_] => True
  | i :: j :: r => Meet (st sets i) (st sets j) ∧ Steps sets (j :: r)

structure IsChain (sets : List (List Nat)) (ch : List Nat) (a b c : Nat) : Prop where
  ne : ch ≠ []
  lt : ∀ i ∈ ch, i < sets.length
  first : a ∈ st sets (ch.headD 0)
  last : b ∈ st sets (ch.getLastD 0)
  out : ∀ i ∈ ch, c ∉ st sets i
  steps : Steps sets ch

structure IsPaper (n : Nat) (sets : List (List Nat)) (a b c : Nat) (k1 k2 k3 : List Nat) : Prop where
  lt1 : a < b
  lt2 : b < c
  lt3 : c < n
  ab : IsChain sets k1 a b c
  ac : IsChain sets k2 a c b
  bc : IsChain sets k3 b c a

/-- sets that leave c out lie on one side of it -/
theorem one_side {f : Nat → Int} {V S : List Nat} {c : Nat} (hi : Inj f V) (hc : c ∈ V) (hSV : ∀ x ∈ S, x ∈ V) (hS : ConvS f V S) (hn : c ∉ S) {x y : Nat} (hx : x ∈ S) (hy : y ∈ S) (h : f x < f c) : f y < f c := by
  refine Classical.byContradiction fun q => ?_
  have ne : f y ≠ f c := fun e => hn (hi y (hSV y hy) c hc e ▸ hy)
  exact hn (hS x (hSV x hx) c hc y (hSV y hy) hx hy h (by omega))

theorem side_steps {f : Nat → Int} {V : List Nat} {sets : List (List Nat)} {c : Nat} (hi : Inj f V) (hc : c ∈ V) : ∀ {ch : List Nat}, ch ≠ [] → (∀ i ∈ ch, ∀ x ∈ st sets i, x ∈ V) → (∀ i ∈ ch, ConvS f V (st sets i)) → (∀ i ∈ ch, c ∉ st sets i) →
    Steps sets ch → ∀ {x y : Nat}, x ∈ st sets (ch.headD 0) → y ∈ st sets (ch.getLastD 0) → f x < f c → f y < f c
  | [], h, _, _, _, _, _, _, _, _, _ => absurd rfl h
  | [i], _, hV, hS, ho, _, x, y, hx, hy, h => one_side hi hc (hV i (by simp)) (hS i (by simp)) (ho i (by simp)) hx hy h
  | i :: j :: r, _, hV, hS, ho, hst, x, y, hx, hy, h => by
    obtain ⟨⟨t, t1, t2⟩, h2⟩ := hst
    have q := one_side hi hc (hV i (by simp)) (hS i (by simp)) (ho i (by simp)) hx t1 h
    refine side_steps hi hc (ch := j :: r) (by simp) (fun k hk => hV k (List.mem_cons_of_mem _ hk)) (fun k hk => hS k (List.mem_cons_of_mem _ hk)) (fun k hk => ho k (List.mem_cons_of_mem _ hk)) h2 (x := t) (y := y) t2 ?_ q
    simpa using hy

theorem side_chain {f : Nat → Int} {V : List Nat} {sets : List (List Nat)} {a b c : Nat} {ch : List Nat} (hi : Inj f V) (hc : c ∈ V) (hV : ∀ S ∈ sets, ∀ x ∈ S, x ∈ V) (h : IsChain sets ch a b c) (hS : ∀ i ∈ ch, ConvS f V (st sets i)) :
    f a < f c → f b < f c := fun q => by
  refine side_steps hi hc h.ne (fun i hi x hx => ?_) hS h.out h.steps h.first h.last q
  have hlt := h.lt i hi
  unfold st at hx
  rw [getD_at _ hlt] at hx
  exact hV _ (List.getElem_mem hlt) x hx

/-- no order fits the sets of a paper -/
theorem paper_parts {f : Nat → Int} {n : Nat} {sets : List (List Nat)} {a b c : Nat} {k1 k2 k3 : List Nat} (hi : Inj f (List.range n)) (hV : ∀ S ∈ sets, ∀ x ∈ S, x < n) (h : IsPaper n sets a b c k1 k2 k3)
    (hS : ∀ i ∈ k1 ++ k2 ++ k3, ConvS f (List.range n) (st sets i)) : False := by
  have hV' : ∀ S ∈ sets, ∀ x ∈ S, x ∈ List.range n := fun S hS x hx => List.mem_range.mpr (hV S hS x hx)
  have q1 := h.lt1
  have q2 := h.lt2
  have q3 := h.lt3
  have ma : a ∈ List.range n := List.mem_range.mpr (by omega)
  have mb : b ∈ List.range n := List.mem_range.mpr (by omega)
  have mc : c ∈ List.range n := List.mem_range.mpr (by omega)
  have s1 : ∀ i ∈ k1, ConvS f (List.range n) (st sets i) := fun i hk => hS i (by simp [hk])
  have s2 : ∀ i ∈ k2, ConvS f (List.range n) (st sets i) := fun i hk => hS i (by simp [hk])
  have s3 : ∀ i ∈ k3, ConvS f (List.range n) (st sets i) := fun i hk => hS i (by simp [hk])
  have a1 := side_chain hi mc hV' h.ab s1
  have a2 := side_chain hi mb hV' h.ac s2
  have a3 := side_chain hi ma hV' h.bc s3
  have b1 := side_chain (f := neg f) (inj_neg hi) mc hV' h.ab (fun i hk => convS_neg.mpr (s1 i hk))
  have b2 := side_chain (f := neg f) (inj_neg hi) mb hV' h.ac (fun i hk => convS_neg.mpr (s2 i hk))
  have b3 := side_chain (f := neg f) (inj_neg hi) ma hV' h.bc (fun i hk => convS_neg.mpr (s3 i hk))
  have e1 : f a ≠ f b := fun e => by have := hi a ma b mb e; omega
  have e2 : f a ≠ f c := fun e => by have := hi a ma c mc e; omega
  have e3 : f b ≠ f c := fun e => by have := hi b mb c mc e; omega
  simp only [neg] at b1 b2 b3
  omega

/-- where no order fits, three things avoid one another -/
theorem three_avoid {n : Nat} {sets : List (List Nat)} (h : NoTree n sets) :
    ∃ a b c, a < b ∧ b < c ∧ c < n ∧ Link (List.range n) sets c a b ∧ Link (List.range n) sets b a c ∧ Link (List.range n) sets a b c := by
  refine Classical.byContradiction fun hn => ?_
  have sorted : ∀ a b c, a < b → b < c → c < n → ¬ (Link (List.range n) sets c a b ∧ Link (List.range n) sets b a c ∧ Link (List.range n) sets a b c) :=
    fun a b c h1 h2 h3 h4 => hn ⟨a, b, c, h1, h2, h3, h4⟩
  have hf : ATfree (List.range n) sets := by
    intro a ha b hb c hc h1 h2 h3 ⟨l1, l2, l3⟩
    have m1 := (l1.symm ha).1
    have m2 := (l2.symm ha).1
    have m3 := (l3.symm hb).1
    rw [List.mem_range] at ha hb hc
    rcases Nat.lt_or_gt_of_ne h1 with q1 | q1 <;> rcases Nat.lt_or_gt_of_ne h2 with q2 | q2 <;> rcases Nat.lt_or_gt_of_ne h3 with q3 | q3
    · exact sorted a b c q1 q3 hc ⟨l1, l2, l3⟩
    · exact sorted a c b q2 q3 hb ⟨l2, l1, m3⟩
    · omega
    · exact sorted c a b q2 q1 hb ⟨m2, m3, l1⟩
    · exact sorted b a c q1 q2 hc ⟨m1, l3, l2⟩
    · omega
    · exact sorted b c a q3 q2 ha ⟨l3, m1, m2⟩
    · exact sorted c b a q3 q1 ha ⟨m3, m2, m1⟩
  obtain ⟨f, fi, fc⟩ := ordered_of_ATfree sets _ (List.range n) (Nat.le_refl _) hf
  refine h (fun x => (f x : Int)) (fun x hx y hy e => fi x hx y hy (Int.ofNat.inj e)) fun S hS x hx y hy z hz hxS hzS h1 h2 => ?_
  exact fc S hS x hx y hy z hz (Int.ofNat_lt.mp h1) (Int.ofNat_lt.mp h2) hxS hzS

/-! ### the search for a chain -/

def lastOf (ch : List Nat) : Nat := ch.getLastD 0
def usable (sets : List (List Nat)) (c : Nat) : List Nat := (List.range sets.length).filter (fun i => decide (c ∉ st sets i))

/-- a beginning of a chain from a that leaves c out -/
structure Begun (sets : List (List Nat)) (a c : Nat) (ch : List Nat) : Prop where
  ne : ch ≠ []
  us : ∀ i ∈ ch, i ∈ usable sets c
  first : a ∈ st sets (ch.headD 0)
  steps : Steps sets ch

theorem mem_usable {sets : List (List Nat)} {c i : Nat} : i ∈ usable sets c ↔ i < sets.length ∧ c ∉ st sets i := by
  unfold usable
  rw [List.mem_filter, List.mem_range, decide_eq_true_eq]

theorem Begun.chain {sets : List (List Nat)} {a b c : Nat} {ch : List Nat} (h : Begun sets a c ch) (hb : b ∈ st sets (lastOf ch)) : IsChain sets ch a b c :=
  ⟨h.ne, fun i hi => (mem_usable.mp (h.us i hi)).1, h.first, hb, fun i hi => (mem_usable.mp (h.us i hi)).2, h.steps⟩

theorem steps_snoc {sets : List (List Nat)} {j : Nat} : ∀ {ch : List Nat}, Steps sets ch → ch ≠ [] → Meet (st sets (lastOf ch)) (st sets j) → Steps sets (ch ++ [j])
  | [], _, h, _ => absurd rfl h
  | [i], _, _, h => ⟨h, trivial⟩
  | i :: k :: r, h, _, hm => ⟨h.1, steps_snoc h.2 (by simp) (by simpa [lastOf] using hm)⟩

theorem lastOf_snoc {ch : List Nat} {j : Nat} : lastOf (ch ++ [j]) = j := by
  simp [lastOf, List.getLastD_eq_getLast?]

theorem lastOf_mem {ch : List Nat} (h : ch ≠ []) : lastOf ch ∈ ch := by
  unfold lastOf
  rw [List.getLastD_eq_getLast?, List.getLast?_eq_some_getLast h]
  exact List.getLast_mem h

theorem Begun.snoc {sets : List (List Nat)} {a c j : Nat} {ch : List Nat} (h : Begun sets a c ch) (hj : j ∈ usable sets c) (hm : Meet (st sets (lastOf ch)) (st sets j)) : Begun sets a c (ch ++ [j]) := by
  refine ⟨by simp, fun i hi => ?_, ?_, steps_snoc h.steps h.ne hm⟩
  · rcases List.mem_append.mp hi with q | q
    · exact h.us i q
    · rw [List.mem_singleton.mp q]; exact hj
  · have := h.first
    obtain ⟨x, r, e⟩ := List.exists_cons_of_ne_nil h.ne
    subst e
    exact this

/-- what holds of the chains that are found so far; the first `at` of them are looked through -/
structure Search (sets : List (List Nat)) (a c : Nat) (chains : List (List Nat)) : Prop where
  each : ∀ ch ∈ chains, Begun sets a c ch
  nodup : (chains.map lastOf).Nodup
  starts : ∀ i ∈ usable sets c, a ∈ st sets i → i ∈ chains.map lastOf
/-- the chain ch leads nowhere new, and not to b -/
structure Done (sets : List (List Nat)) (b c : Nat) (chains : List (List Nat)) (ch : List Nat) : Prop where
  goal : b ∉ st sets (lastOf ch)
  near : ∀ i ∈ usable sets c, Meet (st sets (lastOf ch)) (st sets i) → i ∈ chains.map lastOf

theorem search_start {sets : List (List Nat)} {a c : Nat} : Search sets a c (((usable sets c).filter (fun i => decide (a ∈ st sets i))).map (fun i => [i])) := by
  have e : (((usable sets c).filter (fun i => decide (a ∈ st sets i))).map (fun i => [i])).map lastOf = (usable sets c).filter (fun i => decide (a ∈ st sets i)) := by
    rw [List.map_map]
    exact (List.map_congr_left (fun _ _ => rfl)).trans (List.map_id _)
  refine ⟨fun ch hch => ?_, ?_, fun i hi ha => ?_⟩
  · obtain ⟨i, hi, rfl⟩ := List.mem_map.mp hch
    obtain ⟨h1, h2⟩ := List.mem_filter.mp hi
    exact ⟨by simp, fun j hj => by rw [List.mem_singleton.mp hj]; exact h1, of_decide_eq_true h2, trivial⟩
  · rw [e]
    exact (List.nodup_range.filter _).filter _
  · rw [e]
    exact List.mem_filter.mpr ⟨hi, decide_eq_true ha⟩

theorem Search.snoc {sets : List (List Nat)} {a c j : Nat} {chains : List (List Nat)} (h : Search sets a c chains) {ch : List Nat} (hch : ch ∈ chains) (hj : j ∈ usable sets c) (hn : j ∉ chains.map lastOf)
    (hm : Meet (st sets (lastOf ch)) (st sets j)) : Search sets a c (chains ++ [ch ++ [j]]) := by
  refine ⟨fun x hx => ?_, ?_, fun i hi ha => ?_⟩
  · rcases List.mem_append.mp hx with q | q
    · exact h.each x q
    · rw [List.mem_singleton.mp q]
      exact (h.each ch hch).snoc hj hm
  · rw [List.map_append, List.map_cons, List.map_nil, lastOf_snoc, List.nodup_append]
    exact ⟨h.nodup, by simp, fun x hx y hy e => by rw [List.mem_singleton.mp hy] at e; exact hn (e ▸ hx)⟩
  · rw [List.map_append]
    exact List.mem_append_left _ (h.starts i hi ha)

theorem Done.more {sets : List (List Nat)} {b c : Nat} {chains more : List (List Nat)} {ch : List Nat} (h : Done sets b c chains ch) : Done sets b c (chains ++ more) ch :=
  ⟨h.goal, fun i hi hm => by rw [List.map_append]; exact List.mem_append_left _ (h.near i hi hm)⟩

theorem nodup_length : ∀ {l m : List Nat}, l.Nodup → (∀ x ∈ l, x ∈ m) → l.length ≤ m.length
  | [], _, _, _ => Nat.zero_le _
  | a :: l, m, hn, hs => by
    have ha := hs a List.mem_cons_self
    rw [List.nodup_cons] at hn
    have := nodup_length (l := l) (m := m.erase a) hn.2 (fun x hx => (List.mem_erase_of_ne (fun e : x = a => hn.1 (e ▸ hx))).mpr (hs x (List.mem_cons_of_mem _ hx)))
    rw [List.length_erase_of_mem ha] at this
    have := List.length_pos_of_mem ha
    simp only [List.length_cons]
    omega

theorem Search.short {sets : List (List Nat)} {a c : Nat} {chains : List (List Nat)} (h : Search sets a c chains) : chains.length ≤ sets.length := by
  have := nodup_length (m := List.range sets.length) h.nodup (fun x hx => by
    obtain ⟨ch, hch, rfl⟩ := List.mem_map.mp hx
    exact List.mem_range.mpr (mem_usable.mp ((h.each ch hch).us _ (lastOf_mem (h.each ch hch).ne))).1)
  rwa [List.length_map, List.length_range] at this

/-- the search that ends without a chain: there is no link -/
theorem search_none {V : List Nat} {sets : List (List Nat)} {a b c : Nat} {chains : List (List Nat)} (h : Search sets a c chains) (hd : ∀ ch ∈ chains, Done sets b c chains ch) (hab : a ≠ b) : ¬ Link V sets c a b := by
  have key : ∀ w, Link V sets c a w → w = a ∨ ∃ ch ∈ chains, w ∈ st sets (lastOf ch) := fun w l => by
    induction l with
    | refl => exact .inl rfl
    | @step y w S m hS hz hy hw hV ih =>
      obtain ⟨i, hi, e⟩ := List.mem_iff_getElem.mp hS
      have est : st sets i = S := by unfold st; rw [getD_at _ hi, e]
      have hu : i ∈ usable sets c := mem_usable.mpr ⟨hi, by rw [est]; exact hz⟩
      have hin : i ∈ chains.map lastOf := by
        rcases ih with rfl | ⟨ch, hch, hyc⟩
        · exact h.starts i hu (by rw [est]; exact hy)
        · exact (hd ch hch).near i hu ⟨y, hyc, by rw [est]; exact hy⟩
      obtain ⟨ch, hch, e2⟩ := List.mem_map.mp hin
      exact .inr ⟨ch, hch, by rw [e2, est]; exact hw⟩
  intro l
  rcases key b l with e | ⟨ch, hch, hb⟩
  · exact hab e.symm
  · exact (hd ch hch).goal hb

/-! ### an order in which sets stand together -/

theorem run_full : ∀ {l : List Nat}, l.Pairwise (· < ·) → ∀ h : l ≠ [], l.getLast h - l.head h ≤ l.length - 1 → ∀ j, l.head h ≤ j → j ≤ l.getLast h → j ∈ l
  | [], _, h, _, _, _, _ => absurd rfl h
  | [a], _, _, _, j, h1, h2 => by
    simp only [List.head_cons, List.getLast_singleton] at h1 h2
    have : j = a := by omega
    simp [this]
  | a :: b :: r, hp, h, hl, j, h1, h2 => by
    have hp' := List.pairwise_cons.mp hp
    have hab := hp'.1 b List.mem_cons_self
    have hlast : b ≤ (b :: r).getLast (by simp) := by
      rcases List.mem_cons.mp (List.getLast_mem (l := b :: r) (by simp)) with q | q
      · omega
      · have := (List.pairwise_cons.mp hp'.2).1 _ q; omega
    have grow : ∀ {l : List Nat} (h : l ≠ []), l.Pairwise (· < ·) → l.length - 1 ≤ l.getLast h - l.head h ∧ l.head h ≤ l.getLast h := by
      intro l
      induction l with
      | nil => intro h; exact absurd rfl h
      | cons x s ih =>
        intro _ hx
        cases s with
        | nil => simp
        | cons y t =>
          have hx' := List.pairwise_cons.mp hx
          have q := ih (by simp) hx'.2
          have := hx'.1 y List.mem_cons_self
          simp only [List.head_cons, List.length_cons, List.getLast_cons_cons] at q ⊢
          omega
    have g := grow (l := b :: r) (by simp) hp'.2
    simp only [List.head_cons, List.getLast_cons_cons, List.length_cons] at hl h1 h2 g
    rcases Nat.eq_or_lt_of_le h1 with q | q
    · simp [← q]
    · refine List.mem_cons_of_mem _ (run_full hp'.2 (by simp) ?_ j ?_ ?_)
      · simp only [List.head_cons, List.length_cons]; omega
      · simp only [List.head_cons]; omega
      · omega

/-- the places of the things of S in an order -/
def placesIn (order S : List Nat) : List Nat := (List.range order.length).filter (fun i => decide (order.getD i 0 ∈ S))

theorem together_conv {n : Nat} {order S : List Nat} (hp : order.Perm (List.range n)) (h : (placesIn order S).length < 2 ∨ (placesIn order S).getLastD 0 - (placesIn order S).headD 0 = (placesIn order S).length - 1) :
    ConvS (pos order) (List.range n) S := by
  intro x hx y hy z hz hxS hzS h1 h2
  have mo : ∀ w, w ∈ List.range n → w ∈ order := fun w hw => hp.mem_iff.mpr hw
  have at' : ∀ w, w ∈ List.range n → ∃ i : Nat, i < order.length ∧ order.getD i 0 = w ∧ pos order w = i := fun w hw => by
    have hl := List.idxOf_lt_length_of_mem (mo w hw)
    exact ⟨order.idxOf w, hl, by rw [getD_at _ hl]; exact List.getElem_idxOf hl, rfl⟩
  obtain ⟨i, hi, ei, pi⟩ := at' x hx
  obtain ⟨j, hj, ej, pj⟩ := at' y hy
  obtain ⟨k, hk, ek, pk⟩ := at' z hz
  have mem : ∀ i, i ∈ placesIn order S ↔ i < order.length ∧ order.getD i 0 ∈ S := fun i => by
    unfold placesIn; rw [List.mem_filter, List.mem_range, decide_eq_true_eq]
  have mi := (mem i).mpr ⟨hi, by rw [ei]; exact hxS⟩
  have mk := (mem k).mpr ⟨hk, by rw [ek]; exact hzS⟩
  have sorted : (placesIn order S).Pairwise (· < ·) := List.pairwise_lt_range.filter _
  have hik : i ≠ k := by omega
  have ne : placesIn order S ≠ [] := List.ne_nil_of_mem mi
  have two : 2 ≤ (placesIn order S).length := by
    refine Classical.byContradiction fun q => ?_
    match hpl : placesIn order S, ne with
    | [a], _ =>
      rw [hpl, List.mem_singleton] at mi mk
      omega
    | a :: b :: r, _ => rw [hpl] at q; simp at q
  have h' := h.resolve_left (by omega)
  have eh : (placesIn order S).headD 0 = (placesIn order S).head ne := by
    match placesIn order S, ne with
    | a :: r, _ => rfl
  have el : (placesIn order S).getLastD 0 = (placesIn order S).getLast ne := by
    rw [List.getLastD_eq_getLast?, List.getLast?_eq_some_getLast ne]; rfl
  rw [eh, el] at h'
  have lo : (placesIn order S).head ne ≤ i := by
    obtain ⟨m, hm, em⟩ := List.mem_iff_getElem.mp mi
    rw [← em, List.head_eq_getElem]
    rcases Nat.eq_zero_or_pos m with q | q
    · subst q; exact Nat.le_refl _
    · exact Nat.le_of_lt (List.pairwise_iff_getElem.mp sorted 0 m (by omega) hm q)
  have hi' : k ≤ (placesIn order S).getLast ne := by
    obtain ⟨m, hm, em⟩ := List.mem_iff_getElem.mp mk
    rw [← em, List.getLast_eq_getElem]
    by_cases q : m < (placesIn order S).length - 1
    · exact Nat.le_of_lt (List.pairwise_iff_getElem.mp sorted m _ hm (by omega) q)
    · have : m = (placesIn order S).length - 1 := by omega
      subst this; exact Nat.le_refl _
  have := run_full sorted ne (by omega) j (by omega) (by omega)
  have := (mem j).mp this
  rw [ej] at this
  exact this.2
end UR
namespace UR
open PySem PySem.Spec PyProof.Rows L2

/-! ### the text by places -/
def top (i : Nat) : Stmt := PySem.Challenge.pw_unpartedrows_k11_whole_tree_or_paper.main.body.getD i (.Pass ⟨0, 0, 0, 0⟩)
/-- the def at the i-th place stands at its name -/
structure DefAt (K : PySem.W.Frag) (mg : Str → Option Value) (i : Nat) (x : Str) : Prop where
  ex : ∃ f fd, FunD K x x (defArgs (top i)) (defBody (top i)) (defScope (top i)) [] [] f fd ∧ mg x = some (.ref f)
/-- a def that keeps a promise, as it is called by its name -/
structure Cal (P : Program) (w : World) (K : PySem.W.Frag) (mg : Str → Option Value) (base : Heap) (k : Nat) (x : Str) (ps : List Str) (sp : Sp) : Prop where
  ex : ∃ f fd, FnOk P w K mg base CX0 k f fd ps sp ∧ mg x = some (.ref f) ∧ PySem.W.keepIn K (.ref f) = true ∧ Binds K fd ps []
section
variable {P : Program} {w : World} {K : PySem.W.Frag} {mg : Str → Option Value} {base : Heap}
theorem Cal.mono {j k : Nat} {x : Str} {ps : List Str} {sp : Sp} (C : Cal P w K mg base j x ps sp) (h : j ≤ k) : Cal P w K mg base k x ps sp := by
  obtain ⟨f, fd, F, r⟩ := C.ex
  exact ⟨f, fd, F.mono h, r⟩
theorem Cal.imp {k : Nat} {x : Str} {ps : List Str} {sp sp' : Sp} (C : Cal P w K mg base k x ps sp) (h : ∀ vs H Q E, sp' vs H Q E → sp vs H Q E) : Cal P w K mg base k x ps sp' := by
  obtain ⟨f, fd, F, r⟩ := C.ex
  exact ⟨f, fd, F.imp h, r⟩
theorem cal_of {i : Nat} {x : Str} {N ps : List Str} {k : Nat} {sp : Sp} (D : DefAt K mg i x) (S : FnScope N ps (defScope (top i)))
    (hb : ∀ (kV doc pm : Value) (an : Option Addr) (cdv ct : Value) (us : List Value), us.length = ps.length → bindArgs (PySem.W.fnOf x x (defArgs (top i)) (defBody (top i)) (defScope (top i)) .none kV doc pm an cdv ct) ⟨us, []⟩ = pure (ps.zip us))
    (len : ∀ vs H Q E, sp vs H Q E → vs.length = ps.length)
    (hbody : ∀ (f : Addr) (cdv : Value) (A : Around) (outer : List Env) (s : Shared) (H : Hp) (vs : List V) (Q : VK) (E : XK), Room k (A.deeper (envOfC x (defScope (top i)) s.heap.objs.size f cdv)) → sp vs H Q E →
      ∃ t, PSs (cxOf CX0 P w K mg base N x (defScope (top i)) f cdv A outer s H E).nox (defBody (top i)) t ∧ t { nx := fun _ H' => Q .non H', rt := Q } (start N vs) H) : Cal P w K mg base (k + 1) x ps sp := by
  obtain ⟨f, fd, F, hm⟩ := D.ex
  exact ⟨f, fd, F.ok S len (fun cdv A outer s H vs Q E hr h => by
    obtain ⟨t, h1, h2⟩ := hbody f cdv A outer s H vs Q E hr h
    exact ⟨t, h1.nox, h2⟩), hm, F.kp, F.bindsN hb⟩
/-- no call has room 0 -/
theorem cal_none {i : Nat} {x : Str} {ps : List Str} {sp : Sp} (D : DefAt K mg i x) (no : ∀ vs H Q E, ¬ sp vs H Q E)
    (hb : ∀ (kV doc pm : Value) (an : Option Addr) (cdv ct : Value) (us : List Value), us.length = ps.length → bindArgs (PySem.W.fnOf x x (defArgs (top i)) (defBody (top i)) (defScope (top i)) .none kV doc pm an cdv ct) ⟨us, []⟩ = pure (ps.zip us)) : Cal P w K mg base 0 x ps sp := by
  obtain ⟨f, fd, F, hm⟩ := D.ex
  exact ⟨f, fd, ⟨fun vs H Q E h => absurd h (no vs H Q E), fun A outer s H args us vs Q E _ _ _ _ h => absurd h (no vs H Q E)⟩, hm, F.kp, F.bindsN hb⟩
end
section
variable {X : Cx} {k : Nat} {x : Str} {ps : List Str} {sp : Sp} {p pos : Pos} {e : Expr} {es : List Expr} {t : TA}
theorem pe_cal (C : Cal X.prog X.w X.K X.mg X.base k x ps sp) (hr : Room k X.A) (hg : Gl X x) (ha : PA X (e :: es) t) (hx : X.xe = X.xe := by rfl)
    (hdb : (x == ("__debug__" : Str)) = false := by decide) (he : starEach (e :: es) X.env = (false, eval e X.env) :: starEach es X.env := by rfl) (hpl : (backTo pos (starEach es X.env)).any (·.1) = false := by rfl) :
    PE X (.Call (.Name x p) (e :: es) [] pos) (tCall sp [] E0 t) := by
  obtain ⟨f, fd, F, hm, hk, hb⟩ := C.ex
  exact pe_call F hr hg hm hk hb .nil pass0 ha hdb he hpl
end
/-- the built-in names that the text calls -/
structure Bl (mg : Str → Option Value) : Prop where
  range : mg "range" = none
  len : mg "len" = none
  isi : mg "isinstance" = none
  int : mg "int" = none
  min : mg "min" = none
  max : mg "max" = none
  sorted : mg "sorted" = none
  enum : mg "enumerate" = none
  tuple : mg "tuple" = none
  list : mg "list" = none
  any : mg "any" = none
  all : mg "all" = none

/-! ### heaps -/
theorem same_new {H : Hp} {p : Addr} (h : H p = none) (o : HO) : Same H (upd H p o) := fun b u q => by rw [upd_ne (ne_of_none q h)]; exact q
theorem same_mut {H H' : Hp} {p : Addr} {o : HO} (e : Same H H') (h : H p = none) : Same H (upd H' p o) := fun a u ha => by
  rw [upd_ne (ne_of_none ha h)]
  exact e a u ha
/-- the tuples are kept -/
def Tk (H H' : Hp) : Prop := ∀ a xs, H a = some (.tup xs) → H' a = some (.tup xs)
theorem tk {H H' : Hp} (e : Same H H') : Tk H H' := fun a xs h => e _ _ h
theorem Tk.trans {H H1 H2 : Hp} (a : Tk H H1) (b : Tk H1 H2) : Tk H H2 := fun x xs h => b x xs (a x xs h)
theorem tk_new {H : Hp} {p : Addr} (h : H p = none) (o : HO) : Tk H (upd H p o) := tk (same_new h o)
theorem tk_lst {H : Hp} {p : Addr} {xs : List V} (h : H p = some (.lst xs)) (o : HO) : Tk H (upd H p o) := fun a ys q => by
  rw [upd_ne (fun e => by rw [e, h] at q; cases q)]
  exact q
theorem tk_dK {H : Hp} {p : Addr} {xs : List (Key × V)} (h : H p = some (.dK xs)) (o : HO) : Tk H (upd H p o) := fun a ys q => by
  rw [upd_ne (fun e => by rw [e, h] at q; cases q)]
  exact q

/-! ### values -/
def nV (n : Nat) : V := .int (n : Int)
theorem nV_inj {a b : Nat} (h : nV a = nV b) : a = b := by
  injection h with h
  omega
/-- a set of things -/
def SetIn (H : Hp) (v : V) (S : List Nat) : Prop := ∃ a, v = .ref a ∧ H a = some (.tup (S.map nV))
mutual
def TreeIn (H : Hp) (v : V) : Tree → Prop
  | .thing t => v = nV t
  | .any ps => ∃ a b vs, v = .ref a ∧ H a = some (.tup [.str "any", .ref b]) ∧ H b = some (.tup vs) ∧ TreesIn H vs ps
  | .row ps => ∃ a b vs, v = .ref a ∧ H a = some (.tup [.str "row", .ref b]) ∧ H b = some (.tup vs) ∧ TreesIn H vs ps
def TreesIn (H : Hp) (vs : List V) : List Tree → Prop
  | [] => vs = []
  | p :: ps => ∃ v r, vs = v :: r ∧ TreeIn H v p ∧ TreesIn H r ps
end
mutual
theorem TreeIn.tk {H H' : Hp} (e : Tk H H') : ∀ {T : Tree} {v : V}, TreeIn H v T → TreeIn H' v T
  | .thing t, v, h => h
  | .any ps, v, ⟨a, b, vs, e1, h1, h2, h3⟩ => ⟨a, b, vs, e1, e _ _ h1, e _ _ h2, TreesIn.tk e h3⟩
  | .row ps, v, ⟨a, b, vs, e1, h1, h2, h3⟩ => ⟨a, b, vs, e1, e _ _ h1, e _ _ h2, TreesIn.tk e h3⟩
theorem TreesIn.tk {H H' : Hp} (e : Tk H H') : ∀ {ps : List Tree} {vs : List V}, TreesIn H vs ps → TreesIn H' vs ps
  | [], vs, h => h
  | p :: ps, vs, ⟨v, r, e1, h1, h2⟩ => ⟨v, r, e1, TreeIn.tk e h1, TreesIn.tk e h2⟩
end
theorem SetIn.tk {H H' : Hp} (e : Tk H H') {v : V} {S : List Nat} (h : SetIn H v S) : SetIn H' v S := by
  obtain ⟨a, e1, h1⟩ := h
  exact ⟨a, e1, e _ _ h1⟩
theorem TreesIn.length {H : Hp} : ∀ {ps : List Tree} {vs : List V}, TreesIn H vs ps → vs.length = ps.length
  | [], vs, h => by
    have h : vs = [] := h
    subst h; rfl
  | p :: ps, vs, ⟨v, r, e1, h1, h2⟩ => by
    subst e1
    simp [h2.length]
theorem TreesIn.get {H : Hp} : ∀ {ps : List Tree} {vs : List V} {i : Nat} {v : V}, TreesIn H vs ps → vs[i]? = some v → ∃ p, ps[i]? = some p ∧ TreeIn H v p
  | [], vs, i, v, h, e => by
    have h : vs = [] := h
    subst h; simp at e
  | p :: ps, vs, 0, v, ⟨v', r, e1, h1, h2⟩, e => by
    subst e1
    simp at e
    subst e
    exact ⟨p, rfl, h1⟩
  | p :: ps, vs, i + 1, v, ⟨v', r, e1, h1, h2⟩, e => by
    subst e1
    simp only [List.getElem?_cons_succ] at e
    obtain ⟨q, e2, h⟩ := TreesIn.get h2 e
    exact ⟨q, by simpa using e2, h⟩
theorem TreesIn.nil {H : Hp} : TreesIn H [] [] := rfl
theorem TreesIn.append {H : Hp} : ∀ {ps qs : List Tree} {vs ws : List V}, TreesIn H vs ps → TreesIn H ws qs → TreesIn H (vs ++ ws) (ps ++ qs)
  | [], qs, vs, ws, h, h' => by
    have h : vs = [] := h
    subst h; exact h'
  | p :: ps, qs, vs, ws, ⟨v, r, e1, h1, h2⟩, h' => by
    subst e1
    exact ⟨v, r ++ ws, rfl, h1, h2.append h'⟩
theorem TreesIn.one {H : Hp} {p : Tree} {v : V} (h : TreeIn H v p) : TreesIn H [v] [p] := ⟨v, [], rfl, h, rfl⟩
theorem TreesIn.snoc {H : Hp} {ps : List Tree} {vs : List V} {p : Tree} {v : V} (h : TreesIn H vs ps) (h1 : TreeIn H v p) : TreesIn H (vs ++ [v]) (ps ++ [p]) := h.append (.one h1)
theorem TreesIn.reverse {H : Hp} : ∀ {ps : List Tree} {vs : List V}, TreesIn H vs ps → TreesIn H vs.reverse ps.reverse
  | [], vs, h => by
    have h : vs = [] := h
    subst h; rfl
  | p :: ps, vs, ⟨v, r, e1, h1, h2⟩ => by
    subst e1
    rw [List.reverse_cons, List.reverse_cons]
    exact h2.reverse.snoc h1
theorem TreesIn.take {H : Hp} : ∀ {ps : List Tree} {vs : List V} (n : Nat), TreesIn H vs ps → TreesIn H (vs.take n) (ps.take n)
  | [], vs, n, h => by
    have h : vs = [] := h
    subst h; simp [TreesIn]
  | p :: ps, vs, 0, ⟨v, r, e1, h1, h2⟩ => by simp [TreesIn]
  | p :: ps, vs, n + 1, ⟨v, r, e1, h1, h2⟩ => by
    subst e1
    exact ⟨v, r.take n, rfl, h1, h2.take n⟩
theorem TreesIn.drop {H : Hp} : ∀ {ps : List Tree} {vs : List V} (n : Nat), TreesIn H vs ps → TreesIn H (vs.drop n) (ps.drop n)
  | [], vs, n, h => by
    have h : vs = [] := h
    subst h; simp [TreesIn]
  | p :: ps, vs, 0, h => by simpa using h
  | p :: ps, vs, n + 1, ⟨v, r, e1, h1, h2⟩ => by
    subst e1
    exact h2.drop n
/-- what the parts of a tree with parts are, by word -/
def TreeP (H : Hp) (v : V) (word : Str) (ps : List Tree) : Prop := ∃ a b vs, v = .ref a ∧ H a = some (.tup [.str word, .ref b]) ∧ H b = some (.tup vs) ∧ TreesIn H vs ps

/-! ### comprehensions -/
/-- what is made so far stands at D, and Rel says what it is -/
def LcInv (H1 : Hp) (D : Addr) (Rel : Nat → List V → Hp → Prop) (i : Nat) (H : Hp) : Prop := H1 D = none ∧ Same H1 H ∧ ∃ ys, H D = some (.lst ys) ∧ ys.length ≤ i ∧ Rel i ys H
theorem lc_start {H1 : Hp} {D : Addr} {Rel : Nat → List V → Hp → Prop} (h : H1 D = none) (r : Rel 0 [] (upd H1 D (.lst []))) : LcInv H1 D Rel 0 (upd H1 D (.lst [])) := ⟨h, same_new h _, [], upd_same, Nat.le_refl _, r⟩
theorem lc_put {H1 H : Hp} {D : Addr} {Rel : Nat → List V → Hp → Prop} {i : Nat} {ys : List V} {y : V} (hi : i < 100000) (h : H1 D = none) (e : Same H1 H) (hD : H D = some (.lst ys)) (hl : ys.length ≤ i) (r : Rel (i + 1) (ys ++ [y]) (upd H D (.lst (ys ++ [y])))) :
    ∃ acc, H D = some (.lst acc) ∧ acc.length < sizeLine ∧ LcInv H1 D Rel (i + 1) (upd H D (.lst (acc ++ [y]))) :=
  ⟨ys, hD, Nat.lt_of_le_of_lt hl (Nat.lt_of_lt_of_le hi (by decide)), h, same_mut e h, ys ++ [y], upd_same, by simp; omega, r⟩
theorem lc_skip {H1 H : Hp} {D : Addr} {Rel : Nat → List V → Hp → Prop} {i : Nat} {ys : List V} (h : H1 D = none) (e : Same H1 H) (hD : H D = some (.lst ys)) (hl : ys.length ≤ i) (r : Rel (i + 1) ys H) : LcInv H1 D Rel (i + 1) H :=
  ⟨h, e, ys, hD, by omega, r⟩
theorem sz {n : Nat} (h : n ≤ 100000) : n ≤ sizeLine := Nat.le_trans h (by decide)
theorem szl {n : Nat} (h : n < 100000) : n < sizeLine := Nat.lt_of_lt_of_le h (by decide)
end UR
namespace PySem.AutoSeq1
open PySem
theorem ur_extend_tuple (l : Addr) (items : Array Value) (n : Nat) (b : Addr) (items2 : Array Value) (n2 : Nat) (dd : Option Addr) (sl : Array (Option Value)) (hs0 : ¬(!items.isEmpty && Builtin.List.listTooLong (items.size + items2.size)) = true) (hs1 : items.size ≤ sizeLine) (hs2 : items.size + items2.size ≤ sizeLine + 1) :
    Meets (Builtin.«list.extend» ⟨[.ref l, .ref b], []⟩) (fun _ R s => s.heap.get? l = some { cls := .type "list", dict := none, data := .seq items n, slots := #[] } ∧ s.heap.get? b = some { cls := .type "tuple", dict := dd, data := .seq items2 n2, slots := sl } ∧ R (.ok (.ret Value.none)) { s with heap := s.heap.update l (Obj.mapSeq fun x => x ++ items2), toks := s.toks }) :=
  .of_wp fun prog w A R s h => by
    obtain ⟨hp, g, d, tk, os⟩ := s; obtain ⟨hl, hb, h⟩ := h; have f1 := idx_int; have f2 := sub_tuple_tuple; have f3 := sub_list_list; have f4 := sub_tuple_list; have f5 := sub_list_tuple;
    have hz' : (items ++ items2).size ≤ sizeLine + 1 := by rw [Array.size_append]; exact hs2
    wp_walk using (wpAny_updateSeq hl rfl (hz := hs1) (_hz' := hz')), wpAny_loadPart' hl, wpAny_loadPart' hb; exact ⟨_, rfl, h⟩
end PySem.AutoSeq1
namespace UR
open PySem PySem.Spec PyProof.Rows L2
section
variable {X : Cx} {pos : Pos}
/-- xs.extend(t), t a tuple -/
def rExtendT : V → List V → Hp → VK → Prop := fun x vs H Q => ∃ l b xs zs, x = .ref l ∧ vs = [.ref b] ∧ H l = some (.lst xs) ∧ H b = some (.tup zs) ∧ xs.length + zs.length ≤ sizeLine ∧ Q .non (upd H l (.lst (xs ++ zs)))
theorem mt_extendT : MtM X "list.extend" rExtendT := by
  intro pins s σ H x vs v us Q I rx rv h
  obtain ⟨l, b, xs, zs, rfl, rfl, hH, hB, hz, q⟩ := h
  cases rx
  obtain ⟨u, rfl, ru⟩ := rv.one
  cases ru
  obtain ⟨z, its, n, r, hl, e⟩ := I.lstM hH
  obtain ⟨its2, r2, ⟨⟨cls, dd, data, sl⟩, e2, hc2, n2, hd2⟩, hl2⟩ := I.tuple (SqT.of hB)
  simp only at hc2 hd2
  subst hc2 hd2
  have hl3 := r2.length
  have hsz : its.toArray.size + its2.toArray.size ≤ sizeLine := by rw [List.size_toArray, List.size_toArray]; omega
  have hlong : ¬ (!its.toArray.isEmpty && Builtin.List.listTooLong (its.toArray.size + its2.toArray.size)) = true := by
    rw [notLongL hsz, Bool.and_false]
    exact Bool.false_ne_true
  refine call_meets F.slot_list_extend ⟨_, e, rfl⟩ F.entry_list_extend (F.args_list_extend_2 _ _)
    (AutoSeq1.ur_extend_tuple l its.toArray n b its2.toArray n2 dd sl hlong (by rw [List.size_toArray]; omega) (by omega)) ⟨e, e2, ?_⟩
  refine ⟨.non, _, I.lset (its' := its ++ its2) hH e (by simp) (r.append r2) ?_, rfl, q⟩
  rw [List.length_append]
  omega

/-- (a, b, ..).m(e, ..): the method of a tuple as it is written -/
def tTupM (r : V → List V → Hp → VK → Prop) (to t : TA) : TE := fun σ H Q => to σ H fun xs H1 => xs.length ≤ sizeLine ∧ ∀ p, H1 p = none → t σ (upd H1 p (.tup xs)) fun vs H2 => r (.ref p) vs H2 Q
theorem pe_tupM {e : Expr} {es es0 : List Expr} {k0 : Nat} {to t : TA} {name : Str} {apos cpos pos0 : Pos} {id : String} {r : V → List V → Hp → VK → Prop}
    (pa : PlainAttrs "tuple") (slot : Slot "tuple" name id) (hty : typeOf (.builtin id) = pure (.type "method_descriptor")) (hm : MtR X id r) (ho : PA X es0 to) (ha : PA X (e :: es) t)
    (hbase : attributeBase (.Tuple es0 k0 pos0) name X.env (eval (.Tuple es0 k0 pos0) X.env) = eval (.Tuple es0 k0 pos0) X.env := by rfl)
    (hfew : ((backTo cpos (starEach (e :: es) X.env)).all (fun x => !x.1) && (backToKw cpos (keywordEach [] X.env)).all (fun x => x.1.isSome)
      && decide ((e :: es).length + ([] : List Keyword).length + (if ([] : List Keyword).isEmpty then 0 else 1) < 30)) = true := by rfl)
    (hline : (apos.endLine == cpos.line) = true := by rfl) (hs : starEach (e :: es) X.env = (false, eval e X.env) :: starEach es X.env := by rfl) (hplain : (backTo cpos (starEach es X.env)).any (·.1) = false := by rfl) :
    PE X (.Call (.Attribute (.Tuple es0 k0 pos0) name apos) (e :: es) [] cpos) (tTupM r to t) := by
  refine ⟨fun pins s σ H Q I h => ?_⟩
  refine wpAny_Call_method_late hbase hfew hline rfl ?_
  refine wpAny_Tuple_spliced (thn (ho.run pos0 pins s σ H _ I h) fun us s1 ⟨xs, H1, I1, r1, z, q1⟩ => ⟨by rw [← r1.length]; exact z, ?_⟩)
  have hf : H1 s1.heap.objs.size = none := I1.hok.fresh (Nat.le_refl _)
  have I2 : Inv X pins σ (upd H1 s1.heap.objs.size (.tup xs)) { s1 with heap := s1.heap.push { cls := .type "tuple", data := .seq us.toArray } } :=
    I1.laid (t' := s1.toks) (fun b u e => Heap.get?_push_of_some _ e) (Nat.le_refl _) ⟨z, us, r1, ⟨_, Heap.get?_push_size _ rfl, rfl, _, rfl⟩⟩
  refine ⟨"tuple", id, pa, slot, hty, ⟨_, Heap.get?_push_size _ rfl, rfl⟩, fun a ea => ?_, ?_⟩
  · cases ea
    exact ⟨_, Heap.get?_push_size _ rfl, rfl⟩
  have hA := ha.run cpos pins _ σ _ _ I2 (q1 _ hf)
  rw [hs] at hA ⊢
  refine Calls.callWith_builtin (by show (false || (backTo cpos (starEach es X.env)).any (·.1)) = false; rw [hplain] <;> rfl) (Calls.evalArgs_plain ?_)
  exact thn hA fun us2 s2 ⟨vs, H2, I3, r2, q2⟩ => hm pins s2 σ H2 (.ref s1.heap.objs.size) vs _ us2 Q I3 rfl r2 q2

/-- a op b op c op d op e -/
def tChain4 (r1 r2 r3 r4 : R2) (ta tb tc td te : TE) : TE := fun σ H Q => ta σ H fun x H1 => tb σ H1 fun y H2 => r1 x y H2 fun z H3 => ∃ k, z = .bl k ∧
  (if k = true then tc σ H3 fun u H4 => r2 y u H4 fun z2 H5 => ∃ k2, z2 = .bl k2 ∧ (if k2 = true then td σ H5 fun v H6 => r3 u v H6 fun z3 H7 => ∃ k3, z3 = .bl k3 ∧
    (if k3 = true then te σ H7 fun w H8 => r4 v w H8 Q else Q (.bl false) H7) else Q (.bl false) H5) else Q (.bl false) H3)
theorem pt_chain4 {op1 op2 op3 op4 : CmpOp} {r1 r2 r3 r4 : R2} {a b c d e : Expr} {ta tb tc td te : TE} (h1 : OpR X (compareOp op1) r1) (h2 : OpR X (compareOp op2) r2) (h3 : OpR X (compareOp op3) r3) (h4 : OpR X (compareOp op4) r4)
    (ha : PE X a ta) (hb : PE X b tb) (hc : PE X c tc) (hd : PE X d td) (he : PE X e te) (hm : lastMarks [op1, op2, op3, op4] [b, c, d, e] = false := by with_unfolding_all rfl) :
    PT X (.Compare a [op1, op2, op3, op4] [b, c, d, e] pos) (tTest (tChain4 r1 r2 r3 r4 ta tb tc td te)) := by
  refine ⟨fun pins s σ H Q I h => ?_⟩
  have stop : ∀ {H' : Hp} {s' : Shared}, Inv X pins σ H' s' → (∃ k, V.bl false = .bl k ∧ Q k H') → TP X pins σ Q false s' := fun {H' s'} I' q => by
    obtain ⟨k', e', q'⟩ := q
    cases e'
    exact ⟨H', I', q'⟩
  refine isTrue_chain (thn (ha.run pins s σ H _ I h) fun v s1 ⟨x, H1, I1, q1, p1⟩ => test_link (thn (hb.run pins s1 σ H1 _ I1 p1) fun u s2 ⟨y, H2, I2, q2, p2⟩ =>
    thn (h1 pins s2 σ H2 x y v u _ I2 q1 q2 p2) fun dd s3 ⟨z, H3, I3, q3, k, ek, p3⟩ => ?_)) hm
  subst ek
  cases q3
  refine wpAny_truthy_bool ?_
  cases k with
  | false => exact ite_ff (stop I3 p3)
  | true =>
    refine ite_tt (test_link (thn (hc.run pins s3 σ H3 _ I3 p3) fun u4 s4 ⟨y4, H4, I4, q4, p4⟩ => thn (h2 pins s4 σ H4 y y4 u u4 _ I4 q2 q4 p4) fun d5 s5 ⟨z5, H5, I5, q5, k5, e5, p5⟩ => ?_))
    subst e5
    cases q5
    refine wpAny_truthy_bool ?_
    cases k5 with
    | false => exact ite_ff (stop I5 p5)
    | true =>
      refine ite_tt (test_link (thn (hd.run pins s5 σ H5 _ I5 p5) fun u6 s6 ⟨y6, H6, I6, q6, p6⟩ => thn (h3 pins s6 σ H6 y4 y6 u4 u6 _ I6 q4 q6 p6) fun d7 s7 ⟨z7, H7, I7, q7, k7, e7, p7⟩ => ?_))
      subst e7
      cases q7
      refine wpAny_truthy_bool ?_
      cases k7 with
      | false => exact ite_ff (stop I7 p7)
      | true =>
        refine ite_tt (test_last (thn (he.run pins s7 σ H7 _ I7 p7) fun u8 s8 ⟨y8, H8, I8, q8, p8⟩ => thn (h4 pins s8 σ H8 y6 y8 u6 u8 _ I8 q6 q8 p8) fun d9 s9 ⟨z9, H9, I9, q9, k9, e9, p9⟩ => ?_))
        subst e9
        cases q9
        exact wpAny_truthy_bool ⟨H9, I9, p9⟩
end

/-! ### the rules with the written part named -/
section
variable {X : Cx} {pos : Pos} {a b e l o : Expr} {es elts : List Expr} {ta tb te tl to : TE} {t : TA}
theorem ix_listK (K : PySem.W.Frag) (h : X.K = K := by rfl) : IxR X (rIxL K) := h ▸ ix_list
theorem ix_tupK (K : PySem.W.Frag) (h : X.K = K := by rfl) : IxR X (rIxT K) := h ▸ ix_tup
theorem op_in_seqK (K : PySem.W.Frag) (h : X.K = K := by rfl) : OpR X (compareOp .In) (rIn K false) := h ▸ op_in_seq
theorem op_notIn_seqK (K : PySem.W.Frag) (h : X.K = K := by rfl) : OpR X (compareOp .NotIn) (rIn K true) := h ▸ op_notIn_seq
theorem op_eqDK (K : PySem.W.Frag) (hu : X.A.units + 64 < cLine) (h : X.K = K := by rfl) : OpR X (compareOp .Eq) (rEqD K) := h ▸ op_eqD hu
theorem op_neDK (K : PySem.W.Frag) (hu : X.A.units + 64 < cLine) (h : X.K = K := by rfl) : OpR X (compareOp .NotEq) (rNeD K) := h ▸ op_neD hu
theorem op_inDK (K : PySem.W.Frag) {k : Nat} (hr : Room k X.A) (h : X.K = K := by rfl) : OpR X (compareOp .In) (rInD K) := h ▸ op_inD (by have := hr.un; omega)
theorem op_catAK (K : PySem.W.Frag) (h : X.K = K := by rfl) : OpR X (binaryOp .Add) (rCatA K) := h ▸ op_catA
theorem sl_listK (K : PySem.W.Frag) (h : X.K = K := by rfl) : SlR X (rSlL K) := h ▸ sl_list
theorem sl_tupAK (K : PySem.W.Frag) (h : X.K = K := by rfl) : SlR X (rSlA K) := h ▸ sl_tupA
theorem pi_listK (K : PySem.W.Frag) {tg : Expr} (hl : PE X l tl) (h : X.K = K := by rfl) : PI X tg l (iList K tl) := h ▸ pi_list hl
theorem pi_tupK (K : PySem.W.Frag) {tg : Expr} (hl : PE X l tl) (h : X.K = K := by rfl) : PI X tg l (iTup K tl) := h ▸ pi_tup hl
def rLenQ (K : PySem.W.Frag) : List V → Hp → VK → Prop := fun xs H Q => ∃ p ys, xs = [.ref p] ∧ (SqL K H p ys ∨ SqT K H p ys) ∧ Q (.int ys.length) H
theorem call_lenK (K : PySem.W.Frag) (h : X.K = K := by rfl) : CallR X (.builtin "len") (rLenQ K) := h ▸ call_len_seq
def rListQ (K : PySem.W.Frag) : List V → Hp → VK → Prop := fun xs H Q => ∃ p ys, xs = [.ref p] ∧ (SqL K H p ys ∨ SqT K H p ys) ∧ ∀ l, H l = none → Q (.ref l) (upd H l (.lst ys))
theorem call_listK (K : PySem.W.Frag) (h : X.K = K := by rfl) : CallR X (.type "list") (rListQ K) := h ▸ call_list_of
def rTupQ (K : PySem.W.Frag) : List V → Hp → VK → Prop := fun xs H Q => ∃ p ys, xs = [.ref p] ∧ ((SqL K H p ys ∧ ∀ l, H l = none → Q (.ref l) (upd H l (.tup ys))) ∨ (SqT K H p ys ∧ Q (.ref p) H))
theorem call_tupleK (K : PySem.W.Frag) (h : X.K = K := by rfl) : CallR X (.type "tuple") (rTupQ K) := h ▸ call_tuple_of
theorem call_isiKK (K : PySem.W.Frag) (h : X.K = K := by rfl) : CallR X (.builtin "isinstance") (rIsi K) := h ▸ call_isi
theorem cr_minK (K : PySem.W.Frag) (hc : X.calm = true) (h : X.K = K := by rfl) : CallR X (.builtin "min") (rMin K) := h ▸ cr_min hc
theorem cr_sortedK (K : PySem.W.Frag) (h : X.K = K := by rfl) : CallR X (.builtin "sorted") (rSorted K) := h ▸ cr_sorted
theorem cr_sortedPOK (K : PySem.W.Frag) (h : X.K = K := by rfl) : CallR X (.builtin "sorted") (rSortedPO K) := h ▸ cr_sortedPO
theorem cr_anyK (K : PySem.W.Frag) (hc : X.calm = true) (h : X.K = K := by rfl) : CallR X (.builtin "any") (rAny K) := h ▸ cr_any hc
theorem cr_allK (K : PySem.W.Frag) (hc : X.calm = true) (h : X.K = K := by rfl) : CallR X (.builtin "all") (rAll K) := h ▸ cr_all hc
theorem mt_lcountK (K : PySem.W.Frag) (h : X.K = K := by rfl) : MtR X "list.count" (rCntI K) := h ▸ mt_lcount
def rTupIx (K : PySem.W.Frag) : V → List V → Hp → VK → Prop := fun x xs H Q => ∃ p, ∃ ys : List Str, ∃ z j, x = .ref p ∧ xs = [.str z] ∧ SqT K H p (ys.map V.str) ∧ ys[j]? = some z ∧ (∀ m, m < j → ys[m]? ≠ some z) ∧ Q (.int (j : Nat)) H
theorem mt_tup_indexK (K : PySem.W.Frag) (h : X.K = K := by rfl) : MtR X "tuple.index" (rTupIx K) := h ▸ mt_tup_index
theorem pe_revLK (K : PySem.W.Frag) {k : Nat} {p1 p2 p3 : Pos} (he : PE X e te) (h : X.K = K := by rfl) : PE X (.Subscript e (.Slice none none (some (.UnaryOp .USub (.Constant (.int 1) k p1) p2)) p3) pos) (tRevL K te) := h ▸ pe_revL he
end
section
variable {X : Cx} {pos : Pos}
theorem pg_tupK {es : List Expr} {kk : Nat} {t : TGs} (K : PySem.W.Frag) (n : Nat) (hc : X.calm = true) (h : PGs X es t) (hK : X.K = K := by rfl)
    (hn : (assignEach es X.env).length = n := by rfl) (hst : (assignEach es X.env).findIdx? (·.1) = none := by rfl) : PG X (.Tuple es kk pos) (gTup K n t) := hK ▸ pg_tup hc h hn hst
theorem pi_enumK {e : Expr} {ta : TA} {p tpos : Pos} {elts : List Expr} {kk : Nat} (K : PySem.W.Frag) (hg : Gl X "enumerate") (hm : X.mg "enumerate" = none) (ha : PA X [e] ta) (hK : X.K = K := by rfl) (hs : starEach [e] X.env = [(false, eval e X.env)] := by rfl) :
    PI X (.Tuple elts kk tpos) (.Call (.Name "enumerate" p) [e] [] pos) (iEnum K ta) := hK ▸ pi_enum hg hm ha hs
end
/-! ### x = {k: v for ..} -/
section
variable {X : Cx}
theorem ps_setDc {i : Nat} {y : Str} {py : Pos} {kx vx tg iter : Expr} {ifs : List Expr} {scope : Scope} {own : List (Str × Nat)} {pos spos : Pos} {wi : TI} {g : TG} {tt : TT} {tk tv : TE} (hc : X.calm = true) (hN : X.N.Nodup) (hy : X.N[i]? = some y) (hyl : X.env.scope.names.lookup y = some .local)
    (hsw : swapsWith (.DictComp kx vx [⟨tg, iter, ifs, 0⟩] scope pos) (some (.Name y py)) spos.line X.env = pure true) (hi : PI X tg iter wi) (ok : BlkOk X.N X.env.scope scope own)
    (hg : ∀ (s : Shared) (H : Hp) (C : Addr) (cl : List (Str × Addr)) (fp : List Addr), PG (X.blk s H scope (compEnvC scope cl C X.env) fp) tg g) (ht : ∀ (s : Shared) (H : Hp) (C : Addr) (cl : List (Str × Addr)) (fp : List Addr), PTs (X.blk s H scope (compEnvC scope cl C X.env) fp) ifs tt)
    (hk : ∀ (s : Shared) (H : Hp) (C : Addr) (cl : List (Str × Addr)) (fp : List Addr), PE (X.blk s H scope (compEnvC scope cl C X.env) fp) kx tk)
    (he : ∀ (s : Shared) (H : Hp) (C : Addr) (cl : List (Str × Addr)) (fp : List Addr), PE (X.blk s H scope (compEnvC scope cl C X.env) fp) vx tv) (hs : ∀ x, foldedSetIterable iter X.env x = pure x := by intro _; rfl) :
    PS X (.Assign [.Name y py] (.DictComp kx vx [⟨tg, iter, ifs, 0⟩] scope pos) spos) (tAsg (tDc wi g tt tk tv (own.map (·.2))) (gName i)) := by
  refine ⟨fun pins s σ H D I h => ?_⟩
  rw [exec_Assign_Name_used _ _ _ _ hsw]
  refine wpAny_bind (wpAny_standAt (wpAny_bind ?_))
  show wpAny _ X.A (do let _ ← comprehension (.DictComp kx vx [⟨tg, iter, ifs, 0⟩] scope pos) scope X.env (firstIterPos [⟨tg, iter, ifs, 0⟩] pos) newDict false (eval iter X.env) (some (assign (.Name y py) X.env))) _ _ s
  have h : tDc wi g tt tk tv (own.map (·.2)) σ H (fun x H1 => gName i x σ H1 D.nx) := h
  refine wpAny_bind (thn (dc_core (Qf := fun _ s' => SP X pins D .next s') hc hN I hi ok hg ht hk he hs h fun L C s' m H' I' q hn f => ?_) fun _ s' hq => wpAny_pure (wpAny_pure hq))
  show wpAny _ _ (assign (.Name y py) X.env (.ref L)) _ _ _
  refine wpAny_assign_Name (store_ok2 (v := V.ref L) I' hN hy (.inl hyl) rfl (fun s2 I2 ⟨a, sb, ha⟩ => ?_) (.inr hyl))
  obtain ⟨f0, f1, f2, f3, f4, f5⟩ := f
  have haC : C ≠ a := by
    rcases ha with z | z
    · rw [z]; exact f1
    · exact fun e => f4 y a z e.symm
  refine ⟨m, hn.sameBut sb haC, fun h3 sb3 => ?_⟩
  exact ⟨_, H', I2.turned (t' := s2.toks) (fun b o hb e => (sb3.2 b hb).trans e) f0 f1 f3 f4 f5, q⟩
theorem sw_trueD {kx vx : Expr} {gs : List Comprehension} {scope : Scope} {pos py : Pos} {y : Str} {l : Nat} {env : Env} (hk : env.scope.kind = .function) (hy : env.scope.names.lookup y = some .local) (hl : (py.line == pos.line) = true)
    (ha : (scope.names.any fun (n, k) => n == y && (k == .local || k == .cell)) = false) : swapsWith (.DictComp kx vx gs scope pos) (some (.Name y py)) l env = pure true := by
  have ky : env.kindOf y = some .local := hy
  have hb : env.blockKind = .function := by unfold Env.blockKind; rw [hk]; rfl
  unfold swapsWith
  simp only [hb, ky, ha, Expr.pos, hl]
  rfl
end
end UR
namespace UR
open PySem PySem.Spec PyProof.Rows L2

/-! ### what is handed about -/
def SetN (n : Nat) (S : List Nat) : Prop := S.Pairwise (· < ·) ∧ ∀ x ∈ S, x < n
def TabIn (H : Hp) (v : V) (sets : List (List Nat)) : Prop := ∃ a ws, v = .ref a ∧ H a = some (.tup ws) ∧ All2 (SetIn H) ws sets
def TOk (T : Tree) : Prop := T.Wf ∧ T.listed.length ≤ 24
def PsOk (ps : List Tree) : Prop := WfL ps ∧ (listedL ps).length ≤ 24
def isThing : Tree → Bool
  | .thing _ => true
  | _ => false
def shareW : Nat → Str
  | 0 => "none"
  | 1 => "some"
  | _ => "all"
def shV (r : Nat) : V := .str (shareW r)
/-- a new list of trees -/
def NewL (H : Hp) (Q : VK) (ps : List Tree) : Prop := ∀ p ws H', Same H H' → H p = none → H' p = some (.lst ws) → TreesIn H' ws ps → Q (.ref p) H'
def NewT (H : Hp) (Q : VK) (T : Tree) : Prop := ∀ v H', Same H H' → TreeIn H' v T → Q v H'
def OptL (H : Hp) (Q : VK) (r : Option (List Tree)) : Prop := (r = none → ∀ H', Same H H' → Q .non H') ∧ ∀ L, r = some L → NewL H Q L
def OptT (H : Hp) (Q : VK) (r : Option Tree) : Prop := (r = none → ∀ H', Same H H' → Q .non H') ∧ ∀ T, r = some T → NewT H Q T
/-- a tuple of three chains -/
def ChainsIn (H : Hp) (v : V) (k1 k2 k3 : List Nat) : Prop := ∃ p v1 v2 v3, v = .ref p ∧ H p = some (.tup [v1, v2, v3]) ∧ SetIn H v1 k1 ∧ SetIn H v2 k2 ∧ SetIn H v3 k3
def FormIn (H : Hp) (v : V) (a b c : Nat) (k1 k2 k3 : List Nat) : Prop := ∃ p q r, v = .ref p ∧ H p = some (.tup [.str "three", .ref q, r]) ∧ H q = some (.tup [nV a, nV b, nV c]) ∧ ChainsIn H r k1 k2 k3
def Links (V : List Nat) (sets : List (List Nat)) (a b c : Nat) : Prop := Link V sets c a b ∧ Link V sets b a c ∧ Link V sets a b c
def AnyFits (n : Nat) (sets : List (List Nat)) : Prop := ∃ f, Inj f (List.range n) ∧ Fits f (List.range n) sets
def TabOk (n : Nat) (sets : List (List Nat)) : Prop := 1 ≤ n ∧ n ≤ 24 ∧ sets.length ≤ 8 ∧ ∀ S ∈ sets, SetN n S

/-! ### the promises -/
def sp_is_size : Sp := fun vs H Q _ => ∃ n : Nat, vs = [nV n] ∧ 1 ≤ n ∧ n ≤ 24 ∧ Q (.bl true) H
def sp_check_things : Sp := fun vs H Q _ => ∃ n : Nat, vs = [nV n] ∧ 1 ≤ n ∧ n ≤ 24 ∧ Q (nV n) H
def sp_is_set : Sp := fun vs H Q _ => ∃ (n : Nat) (v : V) (S : List Nat), vs = [nV n, v] ∧ n ≤ 24 ∧ SetIn H v S ∧ SetN n S ∧ Q (.bl true) H
def sp_check_set : Sp := fun vs H Q _ => ∃ (n : Nat) (v : V) (S : List Nat), vs = [nV n, v] ∧ 1 ≤ n ∧ n ≤ 24 ∧ SetIn H v S ∧ SetN n S ∧ Q v H
def sp_check_table : Sp := fun vs H Q _ => ∃ (n : Nat) (v : V) (sets : List (List Nat)), vs = [nV n, v] ∧ TabIn H v sets ∧ TabOk n sets ∧ Q v H
def sp_is_thing : Sp := fun vs H Q _ => ∃ (v : V) (T : Tree), vs = [v] ∧ TreeIn H v T ∧ Q (.bl (isThing T)) H
def sp_listed (n : Nat) : Sp := fun vs H Q _ => ∃ (v : V) (T : Tree), vs = [v] ∧ TreeIn H v T ∧ T.depth < n ∧ T.listed.length ≤ 24 ∧
  ∀ p H', Same H H' → H p = none → H' p = some (.lst (T.listed.map nV)) → Q (.ref p) H'
def sp_least_thing : Sp := fun vs H Q _ => ∃ (v : V) (T : Tree), vs = [v] ∧ TreeIn H v T ∧ TOk T ∧ ∀ (m : Nat) H', Same H H' → Q (nV m) H'
def sp_make_any : Sp := fun vs H Q _ => ∃ (a : Addr) (ws : List V) (ps : List Tree), vs = [.ref a] ∧ H a = some (.lst ws) ∧ TreesIn H ws ps ∧ ps.length ≤ 1000 ∧ NewT H Q (makeAny ps)
def sp_make_row : Sp := fun vs H Q _ => ∃ (a : Addr) (ws : List V) (ps : List Tree), vs = [.ref a] ∧ H a = some (.lst ws) ∧ TreesIn H ws ps ∧ ps.length ≤ 1000 ∧ NewT H Q (makeRow ps)
def sp_normalized (n : Nat) : Sp := fun vs H Q _ => ∃ (v : V) (T : Tree), vs = [v] ∧ TreeIn H v T ∧ T.depth < n ∧ TOk T ∧ ∀ U, Alike T U → NewT H Q U
def sp_plain_tree : Sp := fun vs H Q _ => ∃ n : Nat, vs = [nV n] ∧ 1 ≤ n ∧ n ≤ 24 ∧ NewT H Q (makeAny (things n))
def sp_share : Sp := fun vs H Q _ => ∃ (v c : V) (T : Tree) (S : List Nat), vs = [v, c] ∧ TreeIn H v T ∧ TOk T ∧ SetIn H c S ∧ ∀ H', Same H H' → Q (shV (rank S T)) H'
def sp_with_share : Sp := fun vs H Q _ => ∃ (b : Addr) (ws : List V) (ps : List Tree) (c : V) (S : List Nat) (k : Nat), vs = [.ref b, c, shV k] ∧ H b = some (.tup ws) ∧ TreesIn H ws ps ∧ PsOk ps ∧ SetIn H c S ∧ k ≤ 2 ∧ NewL H Q (withShare S ps k)
def sp_split_any (k : Nat) : Sp := fun vs H Q _ => ∃ (b : Addr) (ws : List V) (ps : List Tree) (c : V) (S : List Nat), vs = [.ref b, c] ∧ H b = some (.tup ws) ∧ TreesIn H ws ps ∧ PsOk ps ∧ SetIn H c S ∧ depthL ps ≤ k ∧ OptL H Q (splitAny (split S k) S ps)
def sp_ascends : Sp := fun vs H Q _ => ∃ (a : Addr) (rs : List Nat), vs = [.ref a] ∧ H a = some (.lst (rs.map shV)) ∧ rs.length ≤ 24 ∧ (∀ r ∈ rs, r ≤ 2) ∧ ∀ H', Same H H' → Q (.bl (decide (ascends rs))) H'
def sp_split_row (k : Nat) : Sp := fun vs H Q _ => ∃ (b : Addr) (ws : List V) (ps : List Tree) (c : V) (S : List Nat), vs = [.ref b, c] ∧ H b = some (.tup ws) ∧ TreesIn H ws ps ∧ PsOk ps ∧ SetIn H c S ∧ depthL ps ≤ k ∧ OptL H Q (splitRow (split S k) S ps)
def sp_split (k : Nat) : Sp := fun vs H Q _ => ∃ (v c : V) (T : Tree) (S : List Nat), vs = [v, c] ∧ TreeIn H v T ∧ TOk T ∧ SetIn H c S ∧ rank S T = 1 ∧ T.depth ≤ k ∧ OptL H Q (split S k T)
def sp_joined_any (k : Nat) : Sp := fun vs H Q _ => ∃ (b : Addr) (ws : List V) (ps : List Tree) (c : V) (S : List Nat), vs = [.ref b, c] ∧ H b = some (.tup ws) ∧ TreesIn H ws ps ∧ PsOk ps ∧ SetIn H c S ∧ depthL ps ≤ k ∧ OptT H Q (joinedAny (split S k) S ps)
def sp_joined_row (k : Nat) : Sp := fun vs H Q _ => ∃ (b : Addr) (ws : List V) (ps : List Tree) (c : V) (S : List Nat), vs = [.ref b, c] ∧ H b = some (.tup ws) ∧ TreesIn H ws ps ∧ PsOk ps ∧ SetIn H c S ∧ depthL ps ≤ k ∧ touched S ps ≠ [] ∧ OptT H Q (joinedRow (split S k) S ps)
def sp_joined (k : Nat) : Sp := fun vs H Q _ => ∃ (v c : V) (T : Tree) (S : List Nat), vs = [v, c] ∧ TreeIn H v T ∧ TOk T ∧ SetIn H c S ∧ rank S T ≠ 0 ∧ T.depth ≤ k ∧ OptT H Q (joined S k T)
def sp_reduced_by : Sp := fun vs H Q _ => ∃ (v c : V) (T : Tree) (S : List Nat), vs = [v, c] ∧ TreeIn H v T ∧ TOk T ∧ SetIn H c S ∧ (2 ≤ S.length → rank S T ≠ 0) ∧
  (S.length < 2 → ∀ U, Alike T U → NewT H Q U) ∧ (2 ≤ S.length → (joined S 24 T = none → ∀ H', Same H H' → Q .non H') ∧ ∀ U U', joined S 24 T = some U → Alike U U' → NewT H Q U')
def TabTree (n : Nat) (sets : List (List Nat)) (H : Hp) (Q : VK) : Prop := (NoTree n sets → ∀ H', Same H H' → Q .non H') ∧ ∀ T, TreeFor n sets T → NewT H Q T
def sp_reduced_by_all : Sp := fun vs H Q _ => ∃ (n : Nat) (v c : V) (T : Tree) (sets : List (List Nat)), vs = [v, c] ∧ TreeIn H v T ∧ TabIn H c sets ∧ TabOk n sets ∧ TreeFor n [] T ∧ TabTree n sets H Q
def sp_tree_of : Sp := fun vs H Q _ => ∃ (n : Nat) (c : V) (sets : List (List Nat)), vs = [nV n, c] ∧ TabIn H c sets ∧ TabOk n sets ∧ TabTree n sets H Q
def sp_share_a_thing : Sp := fun vs H Q _ => ∃ (v c : V) (S T : List Nat), vs = [v, c] ∧ SetIn H v S ∧ SetIn H c T ∧ S.length ≤ 100 ∧ ∀ H', Same H H' → Q (.bl (decide (Meet S T))) H'
/-- the chains that the program finds are short -/
def Short (k1 k2 k3 : List Nat) : Prop := k1.length ≤ 8 ∧ k2.length ≤ 8 ∧ k3.length ≤ 8
def sp_chain_for : Sp := fun vs H Q _ => ∃ (n : Nat) (v : V) (sets : List (List Nat)) (a b c : Nat), vs = [v, nV a, nV b, nV c] ∧ TabIn H v sets ∧ TabOk n sets ∧ a ≠ b ∧
  ((∀ V, ¬ Link V sets c a b) → ∀ H', Same H H' → Q .non H') ∧ ∀ u ch H', Same H H' → SetIn H' u ch → ch.length ≤ 8 → IsChain sets ch a b c → Q u H'
def sp_chains_of : Sp := fun vs H Q _ => ∃ (n : Nat) (v : V) (sets : List (List Nat)) (a b c : Nat), vs = [v, nV a, nV b, nV c] ∧ TabIn H v sets ∧ TabOk n sets ∧ a < b ∧ b < c ∧
  ((∀ V, ¬ Links V sets a b c) → ∀ H', Same H H' → Q .non H') ∧ ∀ u k1 k2 k3 H', Same H H' → ChainsIn H' u k1 k2 k3 → Short k1 k2 k3 → IsChain sets k1 a b c → IsChain sets k2 a c b → IsChain sets k3 b c a → Q u H'
def sp_paper_of : Sp := fun vs H Q _ => ∃ (n : Nat) (v : V) (sets : List (List Nat)), vs = [nV n, v] ∧ TabIn H v sets ∧ TabOk n sets ∧
  ((∀ a b c, a < b → b < c → c < n → ∀ V, ¬ Links V sets a b c) → ∀ H', Same H H' → Q .non H') ∧ ∀ u a b c k1 k2 k3 H', Same H H' → FormIn H' u a b c k1 k2 k3 → Short k1 k2 k3 → IsPaper n sets a b c k1 k2 k3 → Q u H'
def sp_paper_for : Sp := fun vs H Q _ => ∃ (n : Nat) (v : V) (sets : List (List Nat)), vs = [nV n, v] ∧ TabIn H v sets ∧ TabOk n sets ∧
  (AnyFits n sets → ∀ H', Same H H' → Q .non H') ∧ ∀ u a b c k1 k2 k3 H', NoTree n sets → Same H H' → FormIn H' u a b c k1 k2 k3 → Short k1 k2 k3 → IsPaper n sets a b c k1 k2 k3 → Q u H'
def sp_is_chain : Sp := fun vs H Q _ => ∃ (n : Nat) (v u : V) (sets : List (List Nat)) (ch : List Nat) (a b c : Nat), vs = [v, u, nV a, nV b, nV c] ∧ TabIn H v sets ∧ TabOk n sets ∧ SetIn H u ch ∧ ch.length ≤ 1000 ∧
  ∀ (r : Bool) H', Same H H' → (r = true ↔ IsChain sets ch a b c) → Q (.bl r) H'
def sp_is_paper : Sp := fun vs H Q _ => ∃ (n : Nat) (v u : V) (sets : List (List Nat)) (a b c : Nat) (k1 k2 k3 : List Nat), vs = [nV n, v, u] ∧ TabIn H v sets ∧ TabOk n sets ∧ FormIn H u a b c k1 k2 k3 ∧ k1.length ≤ 1000 ∧ k2.length ≤ 1000 ∧ k3.length ≤ 1000 ∧
  ∀ (r : Bool) H', Same H H' → (r = true ↔ IsPaper n sets a b c k1 k2 k3) → Q (.bl r) H'
/-! the law's own helpers: what they draw does not matter -/
def ScIn (K : PySem.W.Frag) (H : Hp) (v : V) : Prop := ∃ (a : Addr) (ns : List Int), v = .ref a ∧ SqL K H a (ns.map V.int) ∧ ns.length ≤ 63
def sp_law_cell (K : PySem.W.Frag) : Sp := fun vs H Q _ => ∃ (v : V) (k : Nat), vs = [v, nV k] ∧ ScIn K H v ∧ k ≤ 1000 ∧ ∀ z : Int, Q (.int z) H
def sp_law_digits : Sp := fun vs H Q _ => ∃ (z : Int) (a : Addr) (ns : List Nat), vs = [.int z, .ref a] ∧ H a = some (.lst (ns.map nV)) ∧ ns.length ≤ 100 ∧ (∀ n ∈ ns, 0 < n ∧ n < 1000) ∧
  ∀ p ds H', Same H H' → H p = none → H' p = some (.lst (ds.map nV)) → All2 (fun d n => d < n) ds ns → Q (.ref p) H'
def sp_law_rich : Sp := fun vs H Q _ => ∃ z : Int, vs = [.int z] ∧ ∀ z : Int, Q (.int z) H
def sp_law_order : Sp := fun vs H Q _ => ∃ (z : Int) (n : Nat), vs = [.int z, nV n] ∧ 1 ≤ n ∧ n ≤ 24 ∧ ∀ u order H', Same H H' → SetIn H' u order → order.Perm (List.range n) → Q u H'
def sp_law_set : Sp := fun vs H Q _ => ∃ (z : Int) (n : Nat), vs = [.int z, nV n] ∧ 1 ≤ n ∧ n ≤ 24 ∧ ∀ u S H', Same H H' → SetIn H' u S → SetN n S → Q u H'
def sp_law_stretch : Sp := fun vs H Q _ => ∃ (z : Int) (n : Nat) (v : V) (order : List Nat), vs = [.int z, v] ∧ 1 ≤ n ∧ n ≤ 24 ∧ SetIn H v order ∧ order.Perm (List.range n) ∧ ∀ u S H', Same H H' → SetIn H' u S → SetN n S → Q u H'
def sp_law_table (K : PySem.W.Frag) : Sp := fun vs H Q _ => ∃ (n : Nat) (s v : V) (order : List Nat), vs = [s, nV 4, nV n, v] ∧ ScIn K H s ∧ 1 ≤ n ∧ n ≤ 24 ∧ SetIn H v order ∧ order.Perm (List.range n) ∧ ∀ u sets H', Same H H' → TabIn H' u sets → TabOk n sets → Q u H'
def sp_law_together : Sp := fun vs H Q _ => ∃ (n : Nat) (v u : V) (order S : List Nat), vs = [v, u] ∧ n ≤ 24 ∧ SetIn H v order ∧ order.Perm (List.range n) ∧ SetIn H u S ∧ ∀ (r : Bool) H', Same H H' → (r = true → ConvS (pos order) (List.range n) S) → Q (.bl r) H'
def sp_law_fits : Sp := fun vs H Q _ => ∃ (n : Nat) (v : V) (order : List Nat) (a : Addr) (ws : List V) (sets : List (List Nat)), vs = [v, .ref a] ∧ n ≤ 24 ∧ SetIn H v order ∧ order.Perm (List.range n) ∧ H a = some (.lst ws) ∧ All2 (SetIn H) ws sets ∧ sets.length ≤ 5000 ∧
  ∀ (r : Bool) H', Same H H' → (r = true → ∀ S ∈ sets, ConvS (pos order) (List.range n) S) → Q (.bl r) H'
def sp_law_is_chain : Sp := fun vs H Q _ => ∃ (n : Nat) (v u : V) (sets : List (List Nat)) (ch : List Nat) (a b c : Nat), vs = [v, u, nV a, nV b, nV c] ∧ TabIn H v sets ∧ TabOk n sets ∧ SetIn H u ch ∧ ch.length ≤ 1000 ∧ IsChain sets ch a b c ∧ ∀ H', Same H H' → Q (.bl true) H'
def sp_law_is_paper : Sp := fun vs H Q _ => ∃ (n : Nat) (v u : V) (sets : List (List Nat)) (a b c : Nat) (k1 k2 k3 : List Nat), vs = [nV n, v, u] ∧ TabIn H v sets ∧ TabOk n sets ∧ FormIn H u a b c k1 k2 k3 ∧ k1.length ≤ 1000 ∧ k2.length ≤ 1000 ∧ k3.length ≤ 1000 ∧ IsPaper n sets a b c k1 k2 k3 ∧ ∀ H', Same H H' → Q (.bl true) H'
def sp_law (K : PySem.W.Frag) : Sp := fun vs H Q _ => ∃ (v : V), vs = [v] ∧ ScIn K H v ∧ ∀ H', Q (.bl true) H'

/-! ### small words -/
theorem All2.imp {α β : Type} {R S : α → β → Prop} (h : ∀ a b, R a b → S a b) {l : List α} {m : List β} (x : All2 R l m) : All2 S l m := by
  induction x with
  | nil => exact .nil
  | cons r _ ih => exact .cons (h _ _ r) ih
theorem All2.get {α β : Type} {R : α → β → Prop} {l : List α} {m : List β} (x : All2 R l m) : ∀ {i : Nat} {a : α}, l[i]? = some a → ∃ b, m[i]? = some b ∧ R a b := by
  induction x with
  | nil => intro i a e; simp at e
  | cons r _ ih =>
    intro i a e
    cases i with
    | zero => simp at e; subst e; exact ⟨_, rfl, r⟩
    | succ i => simp only [List.getElem?_cons_succ] at e ⊢; exact ih e
theorem All2.getR {α β : Type} {R : α → β → Prop} {l : List α} {m : List β} (x : All2 R l m) : ∀ {i : Nat} {b : β}, m[i]? = some b → ∃ a, l[i]? = some a ∧ R a b := by
  induction x with
  | nil => intro i a e; simp at e
  | cons r _ ih =>
    intro i a e
    cases i with
    | zero => simp at e; subst e; exact ⟨_, rfl, r⟩
    | succ i => simp only [List.getElem?_cons_succ] at e ⊢; exact ih e
theorem All2.snoc {α β : Type} {R : α → β → Prop} {l : List α} {m : List β} (x : All2 R l m) {a : α} {b : β} (r : R a b) : All2 R (l ++ [a]) (m ++ [b]) := by
  induction x with
  | nil => exact .cons r .nil
  | cons r' _ ih => exact .cons r' ih
theorem TabIn.tk {H H' : Hp} (e : Tk H H') {v : V} {sets : List (List Nat)} (h : TabIn H v sets) : TabIn H' v sets := by
  obtain ⟨a, ws, e1, h1, h2⟩ := h
  exact ⟨a, ws, e1, e _ _ h1, h2.imp fun _ _ q => q.tk e⟩
theorem ChainsIn.tk {H H' : Hp} (e : Tk H H') {v : V} {k1 k2 k3 : List Nat} (h : ChainsIn H v k1 k2 k3) : ChainsIn H' v k1 k2 k3 := by
  obtain ⟨p, v1, v2, v3, e1, h1, h2, h3, h4⟩ := h
  exact ⟨p, v1, v2, v3, e1, e _ _ h1, h2.tk e, h3.tk e, h4.tk e⟩
theorem FormIn.tk {H H' : Hp} (e : Tk H H') {v : V} {a b c : Nat} {k1 k2 k3 : List Nat} (h : FormIn H v a b c k1 k2 k3) : FormIn H' v a b c k1 k2 k3 := by
  obtain ⟨p, q, r, e1, h1, h2, h3⟩ := h
  exact ⟨p, q, r, e1, e _ _ h1, e _ _ h2, h3.tk e⟩
theorem ScIn.same {K : PySem.W.Frag} {H H' : Hp} (e : Same H H') {v : V} (h : ScIn K H v) : ScIn K H' v := by
  obtain ⟨a, ns, e1, h1, h2⟩ := h
  exact ⟨a, ns, e1, e.seq h1, h2⟩
theorem Same.fresh {H H' : Hp} (e : Same H H') {l : Addr} (h : H' l = none) : H l = none := e.free h
theorem TOk.depth {T : Tree} (h : T.Wf ∧ T.listed.length ≤ 24) : T.depth < 24 := by
  have := depth_lt T h.1
  omega
theorem PsOk.part {ps : List Tree} (h : PsOk ps) {p : Tree} (hp : p ∈ ps) : TOk p := by
  refine ⟨wfL_iff.mp h.1 p hp, ?_⟩
  have := (listedL_sublist (List.singleton_sublist.mpr hp)).length_le
  simp only [listedL, List.append_nil] at this
  have := h.2
  omega
theorem PsOk.len {ps : List Tree} (h : PsOk ps) : ps.length ≤ 24 := by
  have := listedL_len ps h.1
  have := h.2
  omega
theorem atN {xs : List V} {j : Nat} {v : V} (h : xs[j]? = some v) : atI xs (j : Int) = some v := atI_nat h
theorem at0 {v : V} {r : List V} : atI (v :: r) 0 = some v := atI_nat (j := 0) rfl
theorem at1 {v u : V} {r : List V} : atI (v :: u :: r) 1 = some u := atI_nat (j := 1) rfl
theorem at2 {v u w : V} {r : List V} : atI (v :: u :: w :: r) 2 = some w := atI_nat (j := 2) rfl
theorem inV_nV {x : Nat} : ∀ {S : List Nat}, inV (nV x) (S.map nV) = decide (x ∈ S)
  | [] => by simp [inV]
  | a :: S => by
    have ih := inV_nV (x := x) (S := S)
    have e1 : inV (nV x) ((a :: S).map nV) = (eqV (nV a) (nV x) || inV (nV x) (S.map nV)) := by unfold inV; rw [List.map_cons, List.any_cons]
    rw [e1, ih]
    have e2 : eqV (nV a) (nV x) = decide (a = x) := by
      show ((a : Int) == (x : Int)) = _
      by_cases h : a = x
      · subst h; simp
      · rw [decide_eq_false h]
        exact beq_eq_false_iff_ne.mpr (by omega)
    rw [e2]
    by_cases h : x = a
    · subst h; simp
    · simp [h, Ne.symm h]
theorem flat_nV : ∀ S : List Nat, (S.map nV).all flatV = true := fun S => by
  rw [List.all_map]
  exact List.all_eq_true.mpr fun _ _ => rfl
def partsOf : Tree → List Tree
  | .thing _ => []
  | .any ps => ps
  | .row ps => ps
def wordOf : Tree → Str
  | .any _ => "any"
  | _ => "row"
theorem treeP {H : Hp} {v : V} {T : Tree} (h : TreeIn H v T) (ht : isThing T = false) : TreeP H v (wordOf T) (partsOf T) ∧ T.listed = listedL (partsOf T) ∧ T.depth = depthL (partsOf T) + 1 := by
  cases T with
  | thing t => cases ht
  | any ps => exact ⟨h, rfl, rfl⟩
  | row ps => exact ⟨h, rfl, rfl⟩
theorem wfParts {T : Tree} (h : T.Wf) : WfL (partsOf T) := by
  cases T with
  | thing t => trivial
  | any ps => exact h.2
  | row ps => exact h.2
theorem listed_part {ps : List Tree} {p : Tree} (hp : p ∈ ps) : p.listed.length ≤ (listedL ps).length := by
  have := (listedL_sublist (List.singleton_sublist.mpr hp)).length_le
  simpa only [listedL, List.append_nil] using this
theorem getS {σ : L2.St} {i j : Nat} {x : Option V} {v : Option V} (h : σ[j]? = some x) (e : i ≠ j) : (σ.set i v)[j]? = some x := by rw [List.getElem?_set_ne e]; exact h
theorem setS {σ : L2.St} {i : Nat} {v : Option V} (h : i < σ.length) : (σ.set i v)[i]? = some v := List.getElem?_set_self h
theorem listedL_take {ps : List Tree} {i : Nat} {p : Tree} (h : ps[i]? = some p) : listedL (ps.take (i + 1)) = listedL (ps.take i) ++ p.listed := by
  rw [List.take_add_one, h, listedL_append]
  simp [listedL]
theorem rank_le (S : List Nat) (T : Tree) : rank S T ≤ 2 := by
  rcases rank_cases S T with h | h | h <;> omega
theorem shV_inj {a b : Nat} (ha : a ≤ 2) (hb : b ≤ 2) : shV a = shV b ↔ a = b := by
  refine ⟨fun h => ?_, fun h => h ▸ rfl⟩
  match a, b, ha, hb, h with
  | 0, 0, _, _, _ => rfl
  | 1, 1, _, _, _ => rfl
  | 2, 2, _, _, _ => rfl
  | 0, 1, _, _, h => exact absurd h (by decide)
  | 0, 2, _, _, h => exact absurd h (by decide)
  | 1, 0, _, _, h => exact absurd h (by decide)
  | 1, 2, _, _, h => exact absurd h (by decide)
  | 2, 0, _, _, h => exact absurd h (by decide)
  | 2, 1, _, _, h => exact absurd h (by decide)
theorem treesIn_things {H : Hp} {f : Nat → V} (h : ∀ i, f i = nV i) : ∀ l : List Nat, TreesIn H (l.map f) (l.map Tree.thing)
  | [] => rfl
  | a :: l => ⟨f a, l.map f, rfl, h a, treesIn_things h l⟩
theorem filter_take {α : Type} {p : α → Bool} {l : List α} {i : Nat} {x : α} (h : l[i]? = some x) : (l.take (i + 1)).filter p = (l.take i).filter p ++ (if p x = true then [x] else []) := by
  rw [List.take_add_one, h, List.filter_append]
  simp [List.filter_cons]
theorem map_get {α β : Type} {f : α → β} {l : List α} {i : Nat} {y : β} (h : (l.map f)[i]? = some y) : ∃ x, l[i]? = some x ∧ y = f x := by
  rw [List.getElem?_map] at h
  cases e : l[i]? with
  | none => rw [e] at h; cases h
  | some x => rw [e] at h; exact ⟨x, rfl, (Option.some.inj h).symm⟩
end UR
namespace UR
open PySem PySem.Spec PyProof.Rows L2
mutual
def dataT : Tree → PyData
  | .thing t => .int t
  | .any ps => .tuple [.str "any", .tuple (dataL ps)]
  | .row ps => .tuple [.str "row", .tuple (dataL ps)]
def dataL : List Tree → List PyData
  | [] => []
  | p :: ps => dataT p :: dataL ps
end
mutual
theorem dataT_ok : ∀ T : Tree, (dataT T).canLay0 = true ∧ (dataT T).depth ≤ 2 * T.depth
  | .thing t => by simp [dataT, PyData.canLay0, PyData.depth]
  | .any ps => by
    obtain ⟨h1, h2⟩ := dataL_ok ps
    have e : PyData.strOk "any" = true := by decide +kernel
    simp only [dataT, PyData.canLay0, PyData.canLayAll0, PyData.depth, PyData.depthAll, Tree.depth, h1, e, Bool.and_self, true_and]
    omega
  | .row ps => by
    obtain ⟨h1, h2⟩ := dataL_ok ps
    have e : PyData.strOk "row" = true := by decide +kernel
    simp only [dataT, PyData.canLay0, PyData.canLayAll0, PyData.depth, PyData.depthAll, Tree.depth, h1, e, Bool.and_self, true_and]
    omega
theorem dataL_ok : ∀ ps : List Tree, PyData.canLayAll0 (dataL ps) = true ∧ PyData.depthAll (dataL ps) ≤ 2 * depthL ps
  | [] => by simp [dataL, PyData.canLayAll0, PyData.depthAll]
  | p :: ps => by
    obtain ⟨h1, h2⟩ := dataT_ok p
    obtain ⟨h3, h4⟩ := dataL_ok ps
    simp only [dataL, PyData.canLayAll0, PyData.depthAll, depthL, h1, h3, Bool.and_self, true_and]
    omega
end
mutual
theorem dpT {K : PySem.W.Frag} {H : Hp} : ∀ (T : Tree) (v : V), TreeIn H v T → Dp K H v (dataT T)
  | .thing t, v, h => by
    have h : v = nV t := h
    subst h
    exact .int _
  | .any ps, v, ⟨a, b, vs, e, h1, h2, h3⟩ => by
    subst e
    exact .tup (SqT.of h1) (.cons (.str _) (.cons (.tup (SqT.of h2) (dpL ps vs h3)) .nil))
  | .row ps, v, ⟨a, b, vs, e, h1, h2, h3⟩ => by
    subst e
    exact .tup (SqT.of h1) (.cons (.str _) (.cons (.tup (SqT.of h2) (dpL ps vs h3)) .nil))
theorem dpL {K : PySem.W.Frag} {H : Hp} : ∀ (ps : List Tree) (vs : List V), TreesIn H vs ps → DpAll K H vs (dataL ps)
  | [], vs, h => by
    have h : vs = [] := h
    subst h
    exact .nil
  | p :: ps, vs, ⟨v, r, e, h1, h2⟩ => by
    subst e
    exact .cons (dpT p v h1) (dpL ps r h2)
end
theorem shaped_list {ds : List PyData} (h1 : PyData.canLayAll0 ds = true) (h2 : PyData.depthAll ds ≤ 60) : SeqAt.shaped (.list ds) = true := by
  unfold SeqAt.shaped
  rw [Bool.and_eq_true]
  refine ⟨by simpa only [PyData.canLay0] using h1, decide_eq_true ?_⟩
  simp only [PyData.depth]
  omega
theorem shaped_nil : SeqAt.shaped (.list []) = true := shaped_list (by simp [PyData.canLayAll0]) (by simp [PyData.depthAll])
theorem eqv_nil {ds : List PyData} : PyData.eqv (.list ds) (.list []) = ds.isEmpty := by
  cases ds <;> simp [PyData.eqv, PyData.eqvAll]
theorem dataL_empty {ps : List Tree} : (dataL ps).isEmpty = ps.isEmpty := by
  cases ps <;> simp [dataL]
/-- xs != [], a list of trees -/
theorem ne_nil_trees {K : PySem.W.Frag} {H : Hp} {a l : Addr} {ws : List V} {ps : List Tree} {Q : VK} (ha : H a = some (.lst ws)) (hl : H l = some (.lst [])) (h : TreesIn H ws ps) (hd : depthL ps ≤ 24)
    (q : Q (.bl (!ps.isEmpty)) H) : rNeD K (.ref a) (.ref l) H Q := by
  obtain ⟨h1, h2⟩ := dataL_ok ps
  exact ⟨.list (dataL ps), .list [], .lst (SqL.of ha) (dpL ps ws h), .lst (SqL.of hl) .nil, shaped_list h1 (by omega), shaped_nil, by rw [eqv_nil, dataL_empty]; exact q⟩
/-- xs == [], xs != [] by data -/
theorem ne_nil_data {K : PySem.W.Frag} {H : Hp} {a l : Addr} {ws : List V} {ds : List PyData} {Q : VK} (ha : H a = some (.lst ws)) (hl : H l = some (.lst [])) (h : DpAll K H ws ds) (h1 : PyData.canLayAll0 ds = true) (hd : PyData.depthAll ds ≤ 60)
    (q : Q (.bl (!ws.isEmpty)) H) : rNeD K (.ref a) (.ref l) H Q := by
  have e : ds.isEmpty = ws.isEmpty := by
    cases h <;> rfl
  exact ⟨.list ds, .list [], .lst (SqL.of ha) h, .lst (SqL.of hl) .nil, shaped_list h1 hd, shaped_nil, by rw [eqv_nil, e]; exact q⟩
theorem eq_nil_data {K : PySem.W.Frag} {H : Hp} {a l : Addr} {ws : List V} {ds : List PyData} {Q : VK} (ha : H a = some (.lst ws)) (hl : H l = some (.lst [])) (h : DpAll K H ws ds) (h1 : PyData.canLayAll0 ds = true) (hd : PyData.depthAll ds ≤ 60)
    (q : Q (.bl ws.isEmpty) H) : rEqD K (.ref a) (.ref l) H Q := by
  have e : ds.isEmpty = ws.isEmpty := by
    cases h <;> rfl
  exact ⟨.list ds, .list [], .lst (SqL.of ha) h, .lst (SqL.of hl) .nil, shaped_list h1 hd, shaped_nil, by rw [eqv_nil, e]; exact q⟩
theorem dp_ints {K : PySem.W.Frag} {H : Hp} : ∀ ns : List Nat, DpAll K H (ns.map nV) (ns.map fun n : Nat => PyData.int (n : Int)) ∧ PyData.canLayAll0 (ns.map fun n : Nat => PyData.int (n : Int)) = true ∧ PyData.depthAll (ns.map fun n : Nat => PyData.int (n : Int)) ≤ 1
  | [] => ⟨.nil, by simp [PyData.canLayAll0], by simp [PyData.depthAll]⟩
  | n :: ns => by
    obtain ⟨h1, h2, h3⟩ := dp_ints (K := K) (H := H) ns
    refine ⟨.cons (.int _) h1, ?_, ?_⟩
    · simp only [List.map_cons, PyData.canLayAll0, PyData.canLay0, h2, Bool.and_self]
    · simp only [List.map_cons, PyData.depthAll, PyData.depth]
      omega
theorem dp_sets {K : PySem.W.Frag} {H : Hp} {ws : List V} {sets : List (List Nat)} (h : All2 (SetIn H) ws sets) : ∃ ds, DpAll K H ws ds ∧ PyData.canLayAll0 ds = true ∧ PyData.depthAll ds ≤ 3 := by
  induction h with
  | nil => exact ⟨[], .nil, by simp [PyData.canLayAll0], by simp [PyData.depthAll]⟩
  | @cons v S r s hv _ ih =>
    obtain ⟨a, rfl, ha⟩ := hv
    obtain ⟨ds, h1, h2, h3⟩ := ih
    obtain ⟨k1, k2, k3⟩ := dp_ints (K := K) (H := H) S
    refine ⟨_, .cons (.tup (SqT.of ha) k1) h1, ?_, ?_⟩
    · simp only [PyData.canLayAll0, PyData.canLay0, h2, k2, Bool.and_self]
    · simp only [PyData.depthAll, PyData.depth]
      omega
theorem share_ok {S : List Nat} {ps : List Tree} {k : Nat} (h : PsOk ps) : PsOk (withShare S ps k) :=
  ⟨wfL_share h.1, by
    have := (listedL_sublist (List.filter_sublist (p := fun p => decide (rank S p = k)) (l := ps))).length_le
    have := h.2
    unfold withShare
    omega⟩
theorem PsOk.depthL {ps : List Tree} (h : PsOk ps) : depthL ps ≤ 24 := by
  have := depthL_len ps h.1
  have := h.2
  omega
theorem part_depth {ps : List Tree} {k : Nat} (h : UR.depthL ps ≤ k) {p : Tree} (hp : p ∈ ps) : p.depth ≤ k := depthL_le.mp h p hp
theorem eqv_ints : ∀ l m : List Int, PyData.eqvAll (l.map PyData.int) (m.map PyData.int) = decide (l = m)
  | [], [] => by simp [PyData.eqvAll]
  | [], _ :: _ => by simp [PyData.eqvAll]
  | _ :: _, [] => by simp [PyData.eqvAll]
  | a :: l, b :: m => by
    rw [List.map_cons, List.map_cons, PyData.eqvAll, eqv_ints l m, PyData.eqv]
    by_cases h : a = b
    · subst h; simp
    · simp [h]
theorem dp_intsI {K : PySem.W.Frag} {H : Hp} : ∀ ns : List Int, DpAll K H (ns.map V.int) (ns.map PyData.int) ∧ PyData.canLayAll0 (ns.map PyData.int) = true ∧ PyData.depthAll (ns.map PyData.int) ≤ 1
  | [] => ⟨.nil, by simp [PyData.canLayAll0], by simp [PyData.depthAll]⟩
  | n :: ns => by
    obtain ⟨h1, h2, h3⟩ := dp_intsI (K := K) (H := H) ns
    refine ⟨.cons (.int _) h1, ?_, ?_⟩
    · simp only [List.map_cons, PyData.canLayAll0, PyData.canLay0, h2, Bool.and_self]
    · simp only [List.map_cons, PyData.depthAll, PyData.depth]
      omega
theorem map_nV (l : List Nat) : l.map nV = (l.map Int.ofNat).map V.int := by
  rw [List.map_map]
  rfl
theorem count_ofNat : ∀ rs : List Nat, (rs.map Int.ofNat).count 1 = rs.count 1
  | [] => rfl
  | r :: rs => by
    rw [List.map_cons, List.count_cons, List.count_cons, count_ofNat rs]
    congr 1
    by_cases h : r = 1
    · subst h; rfl
    · have h2 : (Int.ofNat r == 1) = false := beq_eq_false_iff_ne.mpr (by show (r : Int) ≠ 1; omega)
      have h3 : (r == 1) = false := beq_eq_false_iff_ne.mpr h
      rw [h2, h3]
section
variable {K : PySem.W.Frag} {H : Hp} {σ : L2.St} {te : TE} {Q : VK} {a : Addr} {xs : List V} {ts : List Tree} {c : V} {S : List Nat} {j i1 : Nat} {vs : List Nat}
/-- one turn of [share(part, chosen) for part in ..] -/
theorem turn_share (hts : TreesIn H xs ts) (hok : PsOk ts) (hc : SetIn H c S) (hj : ∀ x, ((wipe σ vs).set j (some x))[j]? = some (some x)) (h1 : ∀ x, ((wipe σ vs).set j (some x))[i1]? = some (some c)) (hw : ∀ x, wipe ((wipe σ vs).set j (some x)) vs = wipe σ vs)
    {D : Addr} {i : Nat} {x : V} {H' : Hp} (hi : xs[i]? = some x) (g : LcInv H D (fun i ys _ => ys = (ts.take i).map fun t => shV (rank S t)) i H') :
    gName j x (wipe σ vs) H' fun σ2 H2 => wipe σ2 vs = wipe σ vs ∧ tYes σ2 H2 fun b H3 => if b = true then tCall sp_share [] E0 (tCons (tVar j) (tCons (tVar i1) tNil)) σ2 H3 fun y H4 => ∃ acc, H4 D = some (.lst acc) ∧ acc.length < sizeLine ∧ LcInv H D (fun i ys _ => ys = (ts.take i).map fun t => shV (rank S t)) (i + 1) (upd H4 D (.lst (acc ++ [y]))) else LcInv H D (fun i ys _ => ys = (ts.take i).map fun t => shV (rank S t)) (i + 1) H3 := by
  obtain ⟨g1, g2, ys, g3, g4, g5⟩ := g
  obtain ⟨t, ht, hx⟩ := hts.get hi
  have tm := List.mem_of_getElem? ht
  have hi2 : i < 24 := by
    have := (List.getElem?_eq_some_iff.mp ht).1
    have := hok.len
    omega
  refine ⟨hw x, ?_⟩
  unfold tYes
  dsimp only
  rw [if_pos (rfl : true = true)]
  refine ⟨_, hj x, _, h1 x, x, c, t, S, rfl, hx.tk (tk g2), hok.part tm, hc.tk (tk g2), fun H2 e2 => lc_put (by omega) g1 (g2.trans e2) (e2 _ _ g3) g4 ?_⟩
  rw [List.take_add_one, ht, List.map_append, ← g5]
  rfl
theorem shares_list (h0 : ∀ Q' : VK, Q' (.ref a) H → te σ H Q') (ha : SqL K H a xs) (hts : TreesIn H xs ts) (hok : PsOk ts) (hc : SetIn H c S) (hj : ∀ x, ((wipe σ vs).set j (some x))[j]? = some (some x)) (h1 : ∀ x, ((wipe σ vs).set j (some x))[i1]? = some (some c))
    (hw : ∀ x, wipe ((wipe σ vs).set j (some x)) vs = wipe σ vs) (q : ∀ p H', Same H H' → H p = none → H' p = some (.lst (ts.map fun t => shV (rank S t))) → Q (.ref p) H') :
    tLc (iList K te) (gName j) tYes (tCall sp_share [] E0 (tCons (tVar j) (tCons (tVar i1) tNil))) vs σ H Q := by
  refine h0 _ ⟨a, rfl, ⟨xs, ha⟩, fun D hD => ?_⟩
  refine lc_list (K := K) (a := a) (xs := xs) (LcInv H D fun i ys _ => ys = (ts.take i).map fun t => shV (rank S t)) (lc_start hD rfl) (fun i H' _ g => g.2.1.seq ha) (fun i x H' hi g => turn_share hts hok hc hj h1 hw hi g) (fun H' g => ?_)
  obtain ⟨g1, g2, ys, g3, g4, g5⟩ := g
  rw [hts.length, List.take_length] at g5
  exact q D H' g2 hD (g5 ▸ g3)
theorem shares_tup (h0 : ∀ Q' : VK, Q' (.ref a) H → te σ H Q') (ha : H a = some (.tup xs)) (hts : TreesIn H xs ts) (hok : PsOk ts) (hc : SetIn H c S) (hj : ∀ x, ((wipe σ vs).set j (some x))[j]? = some (some x)) (h1 : ∀ x, ((wipe σ vs).set j (some x))[i1]? = some (some c))
    (hw : ∀ x, wipe ((wipe σ vs).set j (some x)) vs = wipe σ vs) (q : ∀ p H', Same H H' → H p = none → H' p = some (.lst (ts.map fun t => shV (rank S t))) → Q (.ref p) H') :
    tLc (iTup K te) (gName j) tYes (tCall sp_share [] E0 (tCons (tVar j) (tCons (tVar i1) tNil))) vs σ H Q := by
  refine h0 _ ⟨a, rfl, ⟨xs, SqT.of ha⟩, fun D hD => ?_⟩
  refine lc_tup (K := K) (a := a) (xs := xs) (LcInv H D fun i ys _ => ys = (ts.take i).map fun t => shV (rank S t)) (lc_start hD rfl) (fun i H' _ g => SqT.of (g.2.1 _ _ ha)) (fun i x H' hi g => turn_share hts hok hc hj h1 hw hi g) (fun H' g => ?_)
  obtain ⟨g1, g2, ys, g3, g4, g5⟩ := g
  rw [hts.length, List.take_length] at g5
  exact q D H' g2 hD (g5 ▸ g3)
end
theorem psOk_perm {ps qs : List Tree} (h : PsOk ps) (hp : qs.Perm ps) : PsOk qs := ⟨wfL_perm hp h.1, by rw [(listedL_perm hp).length_eq]; exact h.2⟩
theorem splice_none {sp : Tree → Option (List Tree)} {S : List Nat} : ∀ {ps : List Tree} {i : Nat} {p : Tree}, ps[i]? = some p → piece sp S p = none → splice sp S ps = none
  | [], i, p, h, _ => by simp at h
  | a :: ps, 0, p, h, e => by
    simp at h
    subst h
    rw [splice, e]
  | a :: ps, i + 1, p, h, e => by
    simp only [List.getElem?_cons_succ] at h
    rw [splice]
    cases piece sp S a with
    | none => rfl
    | some l =>
      show (match splice sp S ps with | none => none | some r => some (l ++ r)) = none
      rw [splice_none h e]
theorem splice_take {sp : Tree → Option (List Tree)} {S : List Nat} : ∀ {ps : List Tree} {i : Nat} {p : Tree} {L l : List Tree}, ps[i]? = some p → splice sp S (ps.take i) = some L → piece sp S p = some l → splice sp S (ps.take (i + 1)) = some (L ++ l)
  | [], i, p, _, _, h, _, _ => by simp at h
  | a :: ps, 0, p, L, l, h, e, e2 => by
    simp at h
    subst h
    simp only [List.take_zero, splice, Option.some.injEq] at e
    subst e
    simp [splice, e2]
  | a :: ps, i + 1, p, L, l, h, e, e2 => by
    simp only [List.getElem?_cons_succ] at h
    rw [List.take_succ_cons, splice] at e
    rw [List.take_succ_cons, splice]
    cases ha : piece sp S a with
    | none => rw [ha] at e; cases e
    | some la =>
      rw [ha] at e
      have e : (match splice sp S (ps.take i) with | none => none | some r => some (la ++ r)) = some L := e
      cases hr : splice sp S (ps.take i) with
      | none => rw [hr] at e; cases e
      | some r =>
        rw [hr] at e
        have e : some (la ++ r) = some L := e
        have q := splice_take h hr e2
        show (match splice sp S (ps.take (i + 1)) with | none => none | some r => some (la ++ r)) = some (L ++ l)
        rw [q]
        show some (la ++ (r ++ l)) = some (L ++ l)
        rw [← Option.some.inj e, List.append_assoc]
end UR
namespace UR
open PySem PySem.Spec PyProof.Rows L2
theorem tyes {σ : L2.St} {H : Hp} {P1 P2 : Hp → Prop} (h : P1 H) : tYes σ H (fun b H3 => if b = true then P1 H3 else P2 H3) := by
  unfold tYes
  dsimp only
  rw [if_pos (rfl : true = true)]
  exact h
/-- None, or a list of trees at another place than D -/
def OptIn (D : Addr) (H : Hp) (v : V) : Option (List Tree) → Prop
  | none => v = .non
  | some L => ∃ a ws, v = .ref a ∧ a ≠ D ∧ H a = some (.lst ws) ∧ TreesIn H ws L
theorem OptIn.same {D : Addr} {H H' : Hp} (e : Same H H') {v : V} {r : Option (List Tree)} (h : OptIn D H v r) : OptIn D H' v r := by
  cases r with
  | none => exact h
  | some L =>
    obtain ⟨a, ws, h1, h2, h3, h4⟩ := h
    exact ⟨a, ws, h1, h2, e _ _ h3, h4.tk (tk e)⟩
theorem OptIn.put {D : Addr} {H : Hp} {ys zs : List V} (hD : H D = some (.lst ys)) {v : V} {r : Option (List Tree)} (h : OptIn D H v r) : OptIn D (upd H D (.lst zs)) v r := by
  cases r with
  | none => exact h
  | some L =>
    obtain ⟨a, ws, h1, h2, h3, h4⟩ := h
    exact ⟨a, ws, h1, h2, by rw [upd_ne h2]; exact h3, h4.tk (tk_lst hD _)⟩
def dataO : Option (List Tree) → PyData
  | none => .none
  | some L => .list (dataL L)
theorem dpO {K : PySem.W.Frag} {D : Addr} {H : Hp} {vs : List V} {rs : List (Option (List Tree))} (h : All2 (OptIn D H) vs rs) : DpAll K H vs (rs.map dataO) := by
  induction h with
  | nil => exact .nil
  | @cons v r vs rs hv _ ih =>
    refine .cons ?_ ih
    cases r with
    | none =>
      have hv : v = .non := hv
      subst hv
      exact .non
    | some L =>
      obtain ⟨a, ws, rfl, _, h3, h4⟩ := hv
      exact .lst (SqL.of h3) (dpL L ws h4)
theorem dataO_ok : ∀ {rs : List (Option (List Tree))}, (∀ L, some L ∈ rs → depthL L ≤ 24) → PyData.canLayAll0 (rs.map dataO) = true ∧ PyData.depthAll (rs.map dataO) ≤ 50
  | [], _ => by simp [PyData.canLayAll0, PyData.depthAll]
  | r :: rs, h => by
    obtain ⟨h1, h2⟩ := dataO_ok (rs := rs) (fun L hL => h L (List.mem_cons_of_mem _ hL))
    cases r with
    | none =>
      simp only [List.map_cons, dataO, PyData.canLayAll0, PyData.canLay0, PyData.depthAll, PyData.depth, h1, Bool.and_self, true_and]
      omega
    | some L =>
      obtain ⟨h3, h4⟩ := dataL_ok L
      have := h L List.mem_cons_self
      simp only [List.map_cons, dataO, PyData.canLayAll0, PyData.canLay0, PyData.depthAll, PyData.depth, h1, h3, Bool.and_self, true_and]
      omega
theorem any_none : ∀ rs : List (Option (List Tree)), ((rs.map dataO).any fun z => PyData.eqv z .none) = rs.any Option.isNone
  | [] => rfl
  | r :: rs => by
    rw [List.map_cons, List.any_cons, List.any_cons, any_none rs]
    cases r with
    | none => simp [dataO, PyData.eqv]
    | some L => simp [dataO, PyData.eqv]
theorem mem_none {rs : List (Option (List Tree))} : rs.any Option.isNone = true ↔ none ∈ rs := by
  rw [List.any_eq_true]
  constructor
  · rintro ⟨x, h1, h2⟩
    cases x with
    | none => exact h1
    | some _ => cases h2
  · exact fun h => ⟨none, h, rfl⟩
section
variable {sp : Tree → Option (List Tree)} {S : List Nat} {ps : List Tree}
theorem joinedAny_more (h : 2 < (withShare S ps 1).length) : joinedAny sp S ps = none := by
  unfold joinedAny
  split
  · rename_i e; rw [e] at h; simp at h
  · rename_i e; rw [e] at h; simp at h
  · rename_i e; rw [e] at h; simp at h
  · rfl
theorem joinedAny_fail (h : none ∈ (withShare S ps 1).map sp) (h2 : (withShare S ps 1).length ≤ 2) : joinedAny sp S ps = none := by
  unfold joinedAny
  split
  · rename_i e; rw [e] at h; simp at h
  · rename_i m e
    rw [e] at h
    simp only [List.map_cons, List.map_nil, List.mem_singleton] at h
    rw [← h]
  · rename_i m m' e
    rw [e] at h
    simp only [List.map_cons, List.map_nil, List.mem_cons, List.not_mem_nil, or_false] at h
    rcases h with h | h
    · rw [← h]
    · rw [← h]
      cases sp m <;> rfl
  · rfl
theorem joinedAny_zero (h : withShare S ps 1 = []) : joinedAny sp S ps = some (makeAny (withShare S ps 0 ++ [makeAny (withShare S ps 2)])) := by
  unfold joinedAny
  rw [h]
theorem joinedAny_one {m : Tree} {l : List Tree} (h : withShare S ps 1 = [m]) (hl : sp m = some l) : joinedAny sp S ps = some (makeAny (withShare S ps 0 ++ [makeRow (l ++ bundle (withShare S ps 2))])) := by
  unfold joinedAny
  rw [h]
  show (match sp m with | none => none | some l => some (makeAny (withShare S ps 0 ++ [makeRow (l ++ bundle (withShare S ps 2))]))) = _
  rw [hl]
theorem joinedAny_two {m m' : Tree} {l l' : List Tree} (h : withShare S ps 1 = [m, m']) (hl : sp m = some l) (hl' : sp m' = some l') : joinedAny sp S ps = some (makeAny (withShare S ps 0 ++ [makeRow (l ++ bundle (withShare S ps 2) ++ l'.reverse)])) := by
  unfold joinedAny
  rw [h]
  show (match sp m, sp m' with | some l, some l' => some (makeAny (withShare S ps 0 ++ [makeRow (l ++ bundle (withShare S ps 2) ++ l'.reverse)])) | _, _ => none) = _
  rw [hl, hl']
end
theorem split_len {S : List Nat} {k : Nat} {T : Tree} {L : List Tree} (h : TOk T) (hr : rank S T = 1) (e : split S k T = some L) : L.length ≤ 24 ∧ depthL L ≤ 24 := by
  obtain ⟨_, a2, a3⟩ := split_struct h.1 hr e
  have := listedL_len L a3
  have := a2.length_eq
  have := h.2
  have := depthL_len L a3
  omega
end UR
namespace UR
open PySem PySem.Spec PyProof.Rows L2
theorem cut_take (xs : List V) (i : Nat) : cutV xs none (some (i : Int)) = xs.take i := by
  unfold cutV
  rw [HT.sIx_none, HT.sIx_nat, List.drop_zero, Nat.sub_zero]
  by_cases h : i ≤ xs.length
  · rw [Nat.min_eq_left h]
  · rw [Nat.min_eq_right (by omega), List.take_length, List.take_of_length_le (by omega)]
theorem cut_drop (xs : List V) (i : Nat) : cutV xs (some (i : Int)) none = xs.drop i := by
  unfold cutV
  rw [HT.sIx_none, HT.sIx_nat]
  by_cases h : i ≤ xs.length
  · rw [Nat.min_eq_left h, List.take_of_length_le (by rw [List.length_drop]; omega)]
  · rw [Nat.min_eq_right (by omega), List.drop_length, List.drop_of_length_le (by omega), List.take_nil]
section
variable {K : PySem.W.Frag} {H : Hp} {a : Addr} {xs : List V} {Q : VK}
theorem slA_take (hx : H a = some (.tup xs)) (i : Nat) (q : ∀ p H', Same H H' → H' p = some (.tup (xs.take i)) → Q (.ref p) H') : rSlA K (.ref a) none (some (i : Int)) H Q := by
  refine ⟨a, xs, rfl, SqT.of hx, fun h => ?_, fun _ p hp => ?_⟩
  · have e : xs.take i = xs := by
      have h2 := h.2
      rw [HT.sIx_nat] at h2
      exact List.take_of_length_le (by omega)
    exact q a H (Same.refl _) (by rw [e]; exact hx)
  · refine q p _ (same_new hp _) ?_
    rw [cut_take]
    exact upd_same
theorem slA_drop (hx : H a = some (.tup xs)) (i : Nat) (q : ∀ p H', Same H H' → H' p = some (.tup (xs.drop i)) → Q (.ref p) H') : rSlA K (.ref a) (some (i : Int)) none H Q := by
  refine ⟨a, xs, rfl, SqT.of hx, fun h => ?_, fun _ p hp => ?_⟩
  · have e : xs.drop i = xs := by
      have h2 := h.1
      rw [HT.sIx_nat] at h2
      by_cases z : i = 0
      · subst z; rfl
      · have : xs.length = 0 := by omega
        rw [List.eq_nil_of_length_eq_zero this]
        simp
    exact q a H (Same.refl _) (by rw [e]; exact hx)
  · refine q p _ (same_new hp _) ?_
    rw [cut_drop]
    exact upd_same
end
theorem at_neg1 {xs : List V} {v : V} (h : xs.getLast? = some v) : atI xs (-1) = some v := by
  obtain ⟨ys, rfl⟩ := List.getLast?_eq_some_iff.mp h
  exact atI_last ys v
theorem joinedRow_eq {sp : Tree → Option (List Tree)} {S : List Nat} {ps : List Tree} {f l : Nat} (h1 : (touched S ps).headD 0 = f) (h2 : (touched S ps).getLastD 0 = l) :
    joinedRow sp S ps = if ((ps.drop (f + 1)).take (l - (f + 1))).all (fun p => decide (rank S p = 2)) then
      match rowMid sp S ((ps.drop f).take (l + 1 - f)) with
      | none => none
      | some m => some (makeRow (ps.take f ++ m ++ ps.drop (l + 1)))
    else none := by
  unfold joinedRow
  rw [h1, h2]
  all_goals (dsimp only; cases rowMid sp S ((ps.drop f).take (l + 1 - f)) <;> rfl)
theorem mids_all {S : List Nat} {ps : List Tree} {f l : Nat} (hl : l < ps.length) :
    ((ps.drop (f + 1)).take (l - (f + 1))).all (fun p => decide (rank S p = 2)) = true ↔ ∀ u < l - (f + 1), rank S (ps.getD (f + 1 + u) default) = 2 := by
  rw [List.all_eq_true]
  constructor
  · intro h u hu
    rw [getD_at _ (by omega)]
    have hm : ps[f + 1 + u] ∈ (ps.drop (f + 1)).take (l - (f + 1)) := List.mem_iff_getElem.mpr ⟨u, by rw [List.length_take, List.length_drop]; omega, by rw [List.getElem_take, List.getElem_drop]⟩
    exact of_decide_eq_true (h _ hm)
  · intro h p hp
    obtain ⟨u, hu, rfl⟩ := List.mem_iff_getElem.mp hp
    rw [List.length_take, List.length_drop] at hu
    have q := h u (by omega)
    rw [getD_at _ (by omega)] at q
    rw [List.getElem_take, List.getElem_drop]
    exact decide_eq_true q
theorem rowMid_snoc {sp : Tree → Option (List Tree)} {S : List Nat} {b : Tree} {l : List Tree} (hb : piece sp S b = some l) : ∀ {xs L : List Tree}, splice sp S xs = some L → rowMid sp S (xs ++ [b]) = some (L ++ l.reverse)
  | [], L, h => by
    simp only [splice, Option.some.injEq] at h
    subst h
    simp only [List.nil_append, rowMid, hb]
    rfl
  | a :: xs, L, h => by
    rw [splice] at h
    cases ha : piece sp S a with
    | none => rw [ha] at h; cases h
    | some la =>
      rw [ha] at h
      have h : (match splice sp S xs with | none => none | some r => some (la ++ r)) = some L := h
      cases hr : splice sp S xs with
      | none => rw [hr] at h; cases h
      | some r =>
        rw [hr] at h
        have h : some (la ++ r) = some L := h
        have ih := rowMid_snoc hb hr
        cases hx : xs ++ [b] with
        | nil => simp at hx
        | cons c t =>
          rw [List.cons_append, hx, rowMid, ha, ← hx, ih]
          show some (la ++ (r ++ l.reverse)) = _
          rw [← Option.some.inj h, List.append_assoc]
theorem rowMid_none {sp : Tree → Option (List Tree)} {S : List Nat} : ∀ {xs : List Tree} {i : Nat} {p : Tree}, xs[i]? = some p → piece sp S p = none → rowMid sp S xs = none
  | [], i, p, h, _ => by simp at h
  | [a], 0, p, h, e => by
    simp at h
    subst h
    simp [rowMid, e]
  | [a], i + 1, p, h, _ => by simp at h
  | a :: c :: t, 0, p, h, e => by
    simp at h
    subst h
    rw [rowMid, e]
  | a :: c :: t, i + 1, p, h, e => by
    simp only [List.getElem?_cons_succ] at h
    rw [rowMid]
    cases piece sp S a with
    | none => rfl
    | some l =>
      show (match rowMid sp S (c :: t) with | none => none | some m => some (l ++ m)) = none
      rw [rowMid_none h e]
theorem range_filter_succ (P : Nat → Bool) (i : Nat) : (List.range (i + 1)).filter P = (List.range i).filter P ++ (if P i = true then [i] else []) := by
  rw [List.range_succ, List.filter_append]
  simp [List.filter_cons]
theorem getLastD_of {l : List Nat} {v : Nat} (h : l.getLast? = some v) : l.getLastD 0 = v := by
  rw [List.getLastD_eq_getLast?, h]
  rfl
theorem ascending_le {l : List Nat} (h : l.Pairwise (· < ·)) {a r : Nat} {t : List Nat} (e : l = a :: t) (hr : l.getLast? = some r) : a ≤ r := by
  subst e
  have hm : r ∈ a :: t := List.mem_of_getLast? hr
  rcases List.mem_cons.mp hm with q | q
  · omega
  · exact Nat.le_of_lt ((List.pairwise_cons.mp h).1 r q)
theorem catA {K : PySem.W.Frag} {H : Hp} {a b : Addr} {xs ys : List V} {Q : VK} (ha : H a = some (.tup xs)) (hb : H b = some (.tup ys)) (hz : xs.length + ys.length ≤ 100000)
    (q : ∀ p H', Same H H' → H' p = some (.tup (xs ++ ys)) → Q (.ref p) H') : rCatA K (.ref a) (.ref b) H Q := by
  refine ⟨a, b, xs, ys, rfl, rfl, SqT.of ha, SqT.of hb, sz hz, fun e => ?_, fun _ e => ?_, fun _ _ p hp => q p _ (same_new hp _) upd_same⟩
  · subst e
    exact q b H (Same.refl _) hb
  · subst e
    exact q a H (Same.refl _) (by rw [List.append_nil]; exact ha)
def reMk : Tree → List Tree → Tree
  | .row _, ps => .row ps
  | _, ps => .any ps
theorem treeP_mk {H : Hp} {v : V} {T : Tree} {ps : List Tree} (ht : isThing T = false) (h : TreeP H v (wordOf T) ps) : TreeIn H v (reMk T ps) := by
  cases T with
  | thing t => cases ht
  | any _ => exact h
  | row _ => exact h
section
variable {S : List Nat} {k : Nat} {T : Tree}
theorem joined_full (h : rank S T = 2) : joined S (k + 1) T = some T := by
  cases T with
  | thing t => rfl
  | any ps => rw [joined, if_pos h]
  | row ps => rw [joined, if_pos h]
theorem joined_one {t : Nat} (ht : isThing T = false) (h : ¬ rank S T = 2) (e : touched S (partsOf T) = [t]) :
    joined S (k + 1) T = match joined S k ((partsOf T).getD t default) with | none => none | some q => some (reMk T ((partsOf T).set t q)) := by
  cases T with
  | thing t => cases ht
  | any ps =>
    have e : touched S ps = [t] := e
    rw [joined, if_neg h, e]
    rfl
  | row ps =>
    have e : touched S ps = [t] := e
    rw [joined, if_neg h, e]
    rfl
theorem joined_anyE {ps : List Tree} (h : ¬ rank S (.any ps) = 2) (e : ∀ t, touched S ps ≠ [t]) : joined S (k + 1) (.any ps) = joinedAny (split S k) S ps := by
  rw [joined, if_neg h]
  split
  · rename_i t ht
    exact absurd ht (e t)
  · rfl
theorem joined_rowE {ps : List Tree} (h : ¬ rank S (.row ps) = 2) (e : ∀ t, touched S ps ≠ [t]) : joined S (k + 1) (.row ps) = joinedRow (split S k) S ps := by
  rw [joined, if_neg h]
  split
  · rename_i t ht
    exact absurd ht (e t)
  · rfl
end
section
variable {K : PySem.W.Frag} {a D : Addr} {xs : List V} {g : TG} {tt : TT} {te : TE} {vs : List Nat} {σ : L2.St} {H1 : Hp} {Qd : Hp → Prop}
/-- what one turn of a comprehension is to reach -/
def Turned (tt : TT) (te : TE) (vs : List Nat) (σ : L2.St) (D : Addr) (Nx : Hp → Prop) (σ2 : L2.St) (H2 : Hp) : Prop :=
  wipe σ2 vs = wipe σ vs ∧ tt σ2 H2 fun b H3 => if b = true then te σ2 H3 fun y H4 => ∃ acc, H4 D = some (.lst acc) ∧ acc.length < sizeLine ∧ Nx (upd H4 D (.lst (acc ++ [y]))) else Nx H3
/-- a comprehension over enumerate(xs) -/
theorem lc_enum (Pv : Nat → Hp → Prop) (h0 : Pv 0 (upd H1 D (.lst []))) (hl : ∀ i H, i ≤ xs.length → Pv i H → SqL K H a xs)
    (hs : ∀ i x H T, xs[i]? = some x → Pv i H → H T = none → g (.ref T) (wipe σ vs) (upd H T (.tup [.int (i : Nat), x])) (Turned tt te vs σ D (Pv (i + 1)))) (hd : ∀ H, Pv xs.length H → Qd H) :
    ∃ W : Nat → Nat → Hp → Prop, (∃ m, W 0 m (upd H1 D (.lst []))) ∧ ∀ i m H, W i m H →
      ((Ite K a).stop i H ∧ Qd H) ∨
      ((Ite K a).go i H ∧ ∃ Nx : Hp → Prop, (∀ H', Nx H' → ∃ m', m' < m ∧ W (i + 1) m' H') ∧ ∀ x H', (Ite K a).yld i H x H' → g x (wipe σ vs) H' (Turned tt te vs σ D Nx)) := by
  refine ⟨fun i m H' => m + i = xs.length ∧ Pv i H', ⟨xs.length, rfl, h0⟩, fun i m H' hw => ?_⟩
  obtain ⟨hm, hp⟩ := hw
  have hq := hl i H' (by omega) hp
  by_cases hi : i < xs.length
  · refine Or.inr ⟨⟨xs, xs[i], hq, List.getElem?_eq_getElem hi⟩, Pv (i + 1), fun H2 h2 => ⟨m - 1, by omega, by omega, h2⟩, fun x H2 hy => ?_⟩
    obtain ⟨T, y, rfl, hT, rfl, hy⟩ := hy
    exact hs i y H' T (hy xs hq) hp hT
  · refine Or.inl ⟨⟨xs, hq, by omega⟩, hd H' ?_⟩
    have e : i = xs.length := by omega
    exact e ▸ hp
end
theorem treesIn_map {α : Type} {H : Hp} {f : α → V} {g : α → Tree} : ∀ {l : List α}, (∀ x ∈ l, TreeIn H (f x) (g x)) → TreesIn H (l.map f) (l.map g)
  | [], _ => rfl
  | a :: l, h => ⟨f a, l.map f, rfl, h a List.mem_cons_self, treesIn_map fun x hx => h x (List.mem_cons_of_mem _ hx)⟩
theorem psOk_alike {ps us : List Tree} (h : PsOk ps) (a : All2 Alike ps us) : PsOk us := by
  obtain ⟨i1, i2, _⟩ := alikeL a
  exact ⟨i2 h.1, by rw [i1.length_eq]; exact h.2⟩
/-- the two numbers of a pair that stands at a value -/
def pairOf (H : Hp) (x : V) : Int × Int := match x with
  | .ref t => (match H t with
    | some (.tup [.int a, .int b]) => (a, b)
    | _ => (0, 0))
  | _ => (0, 0)
theorem pairOf_at {H : Hp} {t : Addr} {a b : Int} (h : H t = some (.tup [.int a, .int b])) : pairOf H (.ref t) = (a, b) := by
  unfold pairOf
  dsimp only
  rw [h]
theorem map_range_get {α : Type} [Inhabited α] (l : List α) : (List.range l.length).map (fun i => l.getD i default) = l := by
  apply List.ext_getElem
  · simp
  · intro i h1 h2
    simp only [List.getElem_map, List.getElem_range]
    exact getD_at _ h2
theorem tree_not_non {H : Hp} {u : V} {U : Tree} (h : TreeIn H u U) : u ≠ V.non := fun z => by
  subst z
  cases U with
  | thing _ => exact absurd h (by show ¬ V.non = V.int _; intro z; cases z)
  | any _ => obtain ⟨_, _, _, z, _⟩ := h; cases z
  | row _ => obtain ⟨_, _, _, z, _⟩ := h; cases z
end UR
namespace UR
open PySem PySem.Spec PyProof.Rows L2
/-- sorted(t), t a tuple of ints -/
def rSortedTu (K : PySem.W.Frag) : List V → Hp → VK → Prop := fun vs H Q => ∃ (a : Addr) (ns : List Int), vs = [V.ref a] ∧ SqT K H a (ns.map V.int) ∧ ns.length < 64 ∧
  ∀ (ns' : List Int) (p : Addr), ns'.Perm ns → ns'.Pairwise (· ≤ ·) → H p = none → Q (.ref p) (upd H p (.lst (ns'.map V.int)))
theorem cr_sortedTuK {X : Cx} (K : PySem.W.Frag) (eK : X.K = K := by rfl) : CallR X (.builtin "sorted") (rSortedTu K) := by
  subst eK
  intro pins s σ H vs us Q I rr h
  obtain ⟨a, ns, rfl, hs, h64, q⟩ := h
  obtain ⟨its, rv, ⟨o, ho, hc, n, hd⟩, hz⟩ := I.tuple hs
  rw [Vals.ref1 rr]
  have hi := rv.ints
  have hl := hi.length
  have hz' : its.length ≤ sizeLine := by rw [hl]; exact small64 h64
  refine Calls.call_function_entry kind_sorted plain_sorted entry_sorted (args_sorted1 _) ?_
  unfold Builtin.«sorted»
  refine wpAny_bind (m := checkCount "sorted" 1 1 _) (wpAny_pure ?_)
  refine wpAny_bind (wpAny_collect_seq a (.inr rfl) ho hc hd (fun h' hk => ?_) (by simpa using hz'))
  have I1 : Inv X pins σ H { s with heap := h' } := I.kept (t' := s.toks) hk
  refine wpAny_bind (wpAny_newList ?_ (by simpa using hz'))
  have hoL : (h'.push (seqObj "list" its.toArray.toList.toArray 0)).get? h'.objs.size = some (seqObj "list" its.toArray.toList.toArray 0) := Heap.get?_push_size _ rfl
  refine wpAny_bind (wpAny_holding (wpAny_call_entry slot_list_sort ⟨_, hoL, rfl⟩ entry_list_sort (list_sort_tree hoL (by simpa using hi) (by simpa [hl] using h64) fun out ns' h1 h2 h3 => ⟨_, rfl, ?_⟩) (args_list_sort _)))
  refine wpAny_pure ⟨_, rfl, ?_⟩
  obtain ⟨ep, he'⟩ := sortedHeap_at (vs := its.toArray.toList) (out := out) hoL
  have hlen : (ns'.map V.int).length ≤ sizeLine := by rw [List.length_map, h2.length_eq]; exact small64 h64
  refine ⟨.ref h'.objs.size, upd H h'.objs.size (.lst (ns'.map V.int)), I1.laid (t' := s.toks) (fun b u e => ?_) (Nat.le_refl _) ⟨hlen, out.toList, ep, vals_of_ints h1, he'⟩, rfl, q ns' _ h2 h3 (I1.hok.fresh (Nat.le_refl _))⟩
  have hb : b < h'.objs.size := Heap.lt_size e
  rw [sortedHeap_old (Nat.ne_of_lt hb) (Heap.lt_size (Heap.get?_push_of_some _ e))]
  exact Heap.get?_push_of_some _ e
theorem slA_sub {K : PySem.W.Frag} {H : Hp} {a : Addr} {xs : List V} {lo hi : Option Int} {Q : VK} (hx : H a = some (.tup xs)) (q : ∀ p H' ys, Same H H' → H' p = some (.tup ys) → ys.Sublist xs → Q (.ref p) H') : rSlA K (.ref a) lo hi H Q := by
  refine ⟨a, xs, rfl, SqT.of hx, fun _ => q a H xs (Same.refl _) hx (List.Sublist.refl _), fun _ p hp => q p _ _ (same_new hp _) upd_same ?_⟩
  unfold cutV
  exact (List.take_sublist _ _).trans (List.drop_sublist _ _)
theorem tabAt {H : Hp} {ws : List V} {sets : List (List Nat)} (h : All2 (SetIn H) ws sets) {j : Nat} (hj : j < sets.length) : ∃ y, ws[j]? = some (.ref y) ∧ H y = some (.tup ((st sets j).map nV)) := by
  have e : sets[j]? = some (st sets j) := by
    unfold st
    rw [getD_at _ hj]
    exact List.getElem?_eq_getElem hj
  obtain ⟨x, h1, y, rfl, h2⟩ := h.getR e
  exact ⟨y, h1, h2⟩
theorem steps_iff {sets : List (List Nat)} : ∀ {ch : List Nat}, Steps sets ch ↔ ∀ k, k + 1 < ch.length → Meet (st sets (ch.getD k 0)) (st sets (ch.getD (k + 1) 0))
  | [] => by simp [Steps]
  | [_] => by simp [Steps]
  | i :: j :: r => by
    rw [Steps, steps_iff (ch := j :: r)]
    constructor
    · rintro ⟨h1, h2⟩ k hk
      cases k with
      | zero => exact h1
      | succ k => exact h2 k (by simp only [List.length_cons] at hk ⊢; omega)
    · intro h
      exact ⟨h 0 (by simp), fun k hk => h (k + 1) (by simp only [List.length_cons] at hk ⊢; omega)⟩
theorem ne_nil_nil {K : PySem.W.Frag} {H : Hp} {a l : Addr} {Q : VK} (ha : H a = some (.lst [])) (hl : H l = some (.lst [])) (q : Q (.bl false) H) : rNeD K (.ref a) (.ref l) H Q :=
  ne_nil_data (ds := []) ha hl .nil (by simp [PyData.canLayAll0]) (by simp [PyData.depthAll]) q
theorem eq_nil_nil {K : PySem.W.Frag} {H : Hp} {a l : Addr} {Q : VK} (ha : H a = some (.lst [])) (hl : H l = some (.lst [])) (q : Q (.bl true) H) : rEqD K (.ref a) (.ref l) H Q :=
  eq_nil_data (ds := []) ha hl .nil (by simp [PyData.canLayAll0]) (by simp [PyData.depthAll]) q
theorem last_nV {l : List Nat} (h : l ≠ []) : (l.map nV).getLast? = some (nV (l.getLastD 0)) := by
  rw [List.getLast?_map, List.getLastD_eq_getLast?, List.getLast?_eq_some_getLast h]
  rfl
theorem head_nV {l : List Nat} (h : l ≠ []) : (l.map nV)[0]? = some (nV (l.headD 0)) := by
  cases l with
  | nil => exact absurd rfl h
  | cons a r => rfl
theorem atD {l : List Nat} {k : Nat} (h : k < l.length) : (l.map nV)[k]? = some (nV (l.getD k 0)) := by
  rw [List.getElem?_map, getD_at _ h, List.getElem?_eq_getElem h]
  rfl
theorem all_bl {α : Type} {p : α → Prop} [DecidablePred p] (l : List α) : (l.map fun x => decide (p x)).all id = decide (∀ x ∈ l, p x) := by
  by_cases z : ∀ x ∈ l, p x
  · rw [decide_eq_true z]
    refine List.all_eq_true.mpr fun b hb => ?_
    obtain ⟨x, hx, rfl⟩ := List.mem_map.mp hb
    exact decide_eq_true (z x hx)
  · rw [decide_eq_false z]
    refine Bool.eq_false_iff.mpr fun y => z fun x hx => ?_
    exact of_decide_eq_true (List.all_eq_true.mp y _ (List.mem_map.mpr ⟨x, hx, rfl⟩))
theorem any_bl {α : Type} {p : α → Prop} [DecidablePred p] (l : List α) : (l.map fun x => decide (p x)).any id = decide (∃ x ∈ l, p x) := by
  by_cases z : ∃ x ∈ l, p x
  · rw [decide_eq_true z]
    obtain ⟨x, hx, h⟩ := z
    exact List.any_eq_true.mpr ⟨_, List.mem_map.mpr ⟨x, hx, rfl⟩, decide_eq_true h⟩
  · rw [decide_eq_false z]
    refine Bool.eq_false_iff.mpr fun y => z ?_
    obtain ⟨b, hb, h⟩ := List.any_eq_true.mp y
    obtain ⟨x, hx, rfl⟩ := List.mem_map.mp hb
    exact ⟨x, hx, of_decide_eq_true h⟩
theorem seqIx {r : Int} {n : Nat} (h0 : 0 ≤ r) (h1 : r < (n : Int)) : seqIndex? r n = some r.toNat := by
  unfold seqIndex?
  simp only [show ¬ r < 0 by omega, if_false, decide_eq_true h0, decide_eq_true h1, Bool.and_self, if_true]
theorem sorted_nat {ns' : List Int} {l : List Nat} (hp : ns'.Perm (l.map Int.ofNat)) (hs : ns'.Pairwise (· ≤ ·)) : ∃ S : List Nat, ns'.map V.int = S.map nV ∧ S.Perm l ∧ S.Pairwise (· ≤ ·) := by
  have h0 : ∀ x ∈ ns', Int.ofNat x.toNat = x := fun x hx => by
    obtain ⟨y, _, rfl⟩ := List.mem_map.mp (hp.mem_iff.mp hx)
    rfl
  have e : (ns'.map Int.toNat).map Int.ofNat = ns' := by
    rw [List.map_map]
    exact (List.map_congr_left fun x hx => h0 x hx).trans (List.map_id _)
  refine ⟨ns'.map Int.toNat, ?_, ?_, ?_⟩
  · rw [map_nV, e]
  · have := hp.map Int.toNat
    rw [List.map_map] at this
    exact this.trans (List.Perm.of_eq ((List.map_congr_left fun x _ => rfl).trans (List.map_id l)))
  · rw [List.pairwise_map]
    exact hs.imp fun h => by omega
theorem strict_of {S : List Nat} (h : S.Pairwise (· ≤ ·)) (hn : S.Nodup) : S.Pairwise (· < ·) :=
  (List.Pairwise.and h hn).imp fun {a b} q => Nat.lt_of_le_of_ne q.1 q.2
theorem erase_map {α β : Type} (f : α → β) : ∀ (l : List α) (i : Nat), (l.map f).eraseIdx i = (l.eraseIdx i).map f
  | [], i => by simp
  | a :: l, 0 => rfl
  | a :: l, i + 1 => by
    rw [List.map_cons, List.eraseIdx_cons_succ, List.eraseIdx_cons_succ, List.map_cons, erase_map f l i]
theorem erase_perm {α : Type} : ∀ (l : List α) (i : Nat) (h : i < l.length), (l[i] :: l.eraseIdx i).Perm l
  | a :: l, 0, h => .refl _
  | a :: l, i + 1, h => by
    have h2 : i < l.length := by simpa using h
    rw [List.eraseIdx_cons_succ, List.getElem_cons_succ]
    exact (List.Perm.swap a l[i] (l.eraseIdx i)).trans ((erase_perm l i h2).cons a)
section
variable {K : PySem.W.Frag} {a D : Addr} {xs : List V} {g : TG} {tt : TT} {tk tv : TE} {vs : List Nat} {σ : L2.St} {H1 : Hp} {Qd : Hp → Prop}
/-- what one turn of a dict's comprehension is to reach -/
def TurnedD (tt : TT) (tk tv : TE) (vs : List Nat) (σ : L2.St) (D : Addr) (Nx : Hp → Prop) (σ2 : L2.St) (H2 : Hp) : Prop :=
  wipe σ2 vs = wipe σ vs ∧ tt σ2 H2 fun b H3 => if b = true then tk σ2 H3 fun y H4 => tv σ2 H4 fun z H5 => ∃ kvs k, y = kV k ∧ H5 D = some (.dK kvs) ∧ kvs.length < sizeLine ∧ Nx (upd H5 D (.dK (putK kvs k z))) else Nx H3
/-- a dict's comprehension over a list -/
theorem dc_list (Pv : Nat → Hp → Prop) (h0 : Pv 0 (upd H1 D (.dK []))) (hl : ∀ i H, i ≤ xs.length → Pv i H → SqL K H a xs)
    (hs : ∀ i x H, xs[i]? = some x → Pv i H → g x (wipe σ vs) H (TurnedD tt tk tv vs σ D (Pv (i + 1)))) (hd : ∀ H, Pv xs.length H → Qd H) :
    ∃ W : Nat → Nat → Hp → Prop, (∃ m, W 0 m (upd H1 D (.dK []))) ∧ ∀ i m H, W i m H →
      ((Itl K a).stop i H ∧ Qd H) ∨ ((Itl K a).go i H ∧ ∃ Nx : Hp → Prop, (∀ H', Nx H' → ∃ m', m' < m ∧ W (i + 1) m' H') ∧ ∀ x H', (Itl K a).yld i H x H' → g x (wipe σ vs) H' (TurnedD tt tk tv vs σ D Nx)) := by
  refine ⟨fun i m H' => m + i = xs.length ∧ Pv i H', ⟨xs.length, rfl, h0⟩, fun i m H' hw => ?_⟩
  obtain ⟨hm, hp⟩ := hw
  have hq := hl i H' (by omega) hp
  by_cases hi : i < xs.length
  · refine Or.inr ⟨⟨xs, xs[i], hq, List.getElem?_eq_getElem hi⟩, Pv (i + 1), fun H2 h2 => ⟨m - 1, by omega, by omega, h2⟩, fun x H2 hy => ?_⟩
    obtain ⟨rfl, hy⟩ := hy
    exact hs i x _ (hy xs hq) hp
  · refine Or.inl ⟨⟨xs, hq, by omega⟩, hd H' ?_⟩
    have e : i = xs.length := by omega
    exact e ▸ hp
end
/-- the keys of the dict of sets that are seen -/
def SeenIs (kvs : List (Key × V)) (l : List Nat) : Prop := ∀ j : Nat, (valV kvs (Sum.inl (j : Int))).isSome = decide (j ∈ l)
theorem SeenIs.nil : SeenIs [] [] := fun j => by simp [valV_nil]
theorem SeenIs.put {kvs : List (Key × V)} {l : List Nat} (h : SeenIs kvs l) (i : Nat) (v : V) : SeenIs (putK kvs (Sum.inl (i : Int)) v) (l ++ [i]) := fun j => by
  rw [valV_put]
  by_cases e : j = i
  · subst e
    rw [if_pos rfl]
    simp
  · rw [if_neg (fun q => e (by injection q with q; omega)), h j]
    simp [e]
theorem usable_lt {sets : List (List Nat)} {c i : Nat} (h : i ∈ usable sets c) : i < sets.length := (mem_usable.mp h).1
theorem set_few {n : Nat} {sets : List (List Nat)} (h : TabOk n sets) {j : Nat} (hj : j < sets.length) : (st sets j).length ≤ 24 := by
  have e : sets[j]? = some (st sets j) := by
    unfold st
    rw [getD_at _ hj]
    exact List.getElem?_eq_getElem hj
  have hsn := h.2.2.2 _ (List.mem_of_getElem? e)
  have := nodup_length (m := List.range n) (hsn.1.imp fun h => Nat.ne_of_lt h) (fun x hx => List.mem_range.mpr (hsn.2 x hx))
  rw [List.length_range] at this
  have := h.2.1
  omega
theorem wipe_one {σ : L2.St} {j : Nat} {x : V} : wipe ((wipe σ [j]).set j (some x)) [j] = wipe σ [j] := by
  show List.set (List.set (List.set σ j none) j (some x)) j none = List.set σ j none
  rw [List.set_set, List.set_set]
theorem wipeS {σ : L2.St} {j : Nat} {x : V} (h : j < σ.length) : ((wipe σ [j]).set j (some x))[j]? = some (some x) := setS (by rw [wipe_length]; exact h)
theorem wipeG {σ : L2.St} {i j : Nat} {x : V} {y : Option V} (h : σ[j]? = some y) (e : i ≠ j) : ((wipe σ [i]).set i (some x))[j]? = some y := getS (by rw [wipe_out (fun q => e (List.mem_singleton.mp q).symm)]; exact h) e
/-! ### the search, as it stands -/
structure ChHeap (H : Hp) (U C S : Addr) (sets : List (List Nat)) (a c : Nat) (cs : List V) (chs : List (List Nat)) (kvs : List (Key × V)) (H' : Hp) : Prop where
  same : Same H H'
  us : H' U = some (.lst ((usable sets c).map nV))
  ch : H' C = some (.lst cs)
  each : All2 (SetIn H') cs chs
  seen : H' S = some (.dK kvs)
  few : kvs.length ≤ chs.length
  keys : SeenIs kvs (chs.map lastOf)
  search : Search sets a c chs
  lens : ∀ ch ∈ chs, ch.length ≤ chs.length
structure ChSlots (σ : L2.St) (t U C S : Addr) (b at' : Nat) : Prop where
  len : σ.length = 11
  s0 : σ[0]? = some (some (.ref t))
  s2 : σ[2]? = some (some (nV b))
  s4 : σ[4]? = some (some (.ref U))
  s5 : σ[5]? = some (some (.ref C))
  s6 : σ[6]? = some (some (.ref S))
  s7 : σ[7]? = some (some (nV at'))
theorem ChSlots.set {σ : L2.St} {t U C S : Addr} {b at' i : Nat} {v : Option V} (h : ChSlots σ t U C S b at') (e : 7 < i) : ChSlots (σ.set i v) t U C S b at' :=
  ⟨by rw [List.length_set]; exact h.len, getS h.s0 (by omega), getS h.s2 (by omega), getS h.s4 (by omega), getS h.s5 (by omega), getS h.s6 (by omega), getS h.s7 (by omega)⟩
section
variable {H H' H5 : Hp} {U C S : Addr} {sets : List (List Nat)} {a c j : Nat} {cs : List V} {chs : List (List Nat)} {kvs : List (Key × V)} {x v : V} {ch : List Nat}
theorem ChHeap.keep (h : ChHeap H U C S sets a c cs chs kvs H') (e : Same H' H5) : ChHeap H U C S sets a c cs chs kvs H5 :=
  ⟨h.same.trans e, e _ _ h.us, e _ _ h.ch, h.each.imp fun _ _ q => q.tk (tk e), e _ _ h.seen, h.few, h.keys, h.search, h.lens⟩
theorem ChHeap.add (h : ChHeap H U C S sets a c cs chs kvs H') (UC : U ≠ C) (US : U ≠ S) (CS : C ≠ S) (nC : H C = none) (nS : H S = none) (e : Same (upd H' S (.dK (putK kvs (Sum.inl (j : Int)) v))) H5)
    (hx : SetIn H5 x (ch ++ [j])) (hs : Search sets a c (chs ++ [ch ++ [j]])) (hm : ch ∈ chs) : ChHeap H U C S sets a c (cs ++ [x]) (chs ++ [ch ++ [j]]) (putK kvs (Sum.inl (j : Int)) v) (upd H5 C (.lst (cs ++ [x]))) := by
  have hC5 : H5 C = some (.lst cs) := e _ _ (by rw [upd_ne CS]; exact h.ch)
  have k5 := tk_lst hC5 (.lst (cs ++ [x]))
  have kk := ((tk_dK h.seen (.dK (putK kvs (Sum.inl (j : Int)) v))).trans (tk e)).trans k5
  refine ⟨same_mut ((same_mut h.same nS).trans e) nC, ?_, upd_same, (h.each.imp fun _ _ q => q.tk kk).snoc (hx.tk k5), ?_, ?_, ?_, hs, fun k hk => ?_⟩
  · rw [upd_ne UC]
    exact e _ _ (by rw [upd_ne US]; exact h.us)
  · rw [upd_ne (Ne.symm CS)]
    exact e _ _ upd_same
  · have := length_putK kvs (Sum.inl (j : Int)) v
    have := h.few
    rw [List.length_append]
    show _ ≤ chs.length + 1
    omega
  · rw [List.map_append, List.map_cons, List.map_nil, lastOf_snoc]
    exact h.keys.put j v
  · rw [List.length_append]
    show _ ≤ chs.length + 1
    rcases List.mem_append.mp hk with q | q
    · have := h.lens k q
      omega
    · rw [List.mem_singleton.mp q, List.length_append]
      have := h.lens ch hm
      show ch.length + 1 ≤ _
      omega
end
/-- no call at all -/
def sp_none : Sp := fun _ _ _ _ => False
theorem fn_of' {P : Program} {w : World} {K : PySem.W.Frag} {mg : Str → Option Value} {base : Heap} {i : Nat} {x : Str} {N ps : List Str} {k : Nat} {sp : Sp} {fa : Addr} {fd : FuncData}
    (F : FunD K x x (defArgs (top i)) (defBody (top i)) (defScope (top i)) [] [] fa fd) (S : FnScope N ps (defScope (top i))) (len : ∀ vs H Q E, sp vs H Q E → vs.length = ps.length)
    (hbody : ∀ (f : Addr) (cdv : Value) (A : Around) (outer : List Env) (s : Shared) (H : Hp) (vs : List V) (Q : VK) (E : XK), Room k (A.deeper (envOfC x (defScope (top i)) s.heap.objs.size f cdv)) → sp vs H Q E →
      ∃ t, PSs (cxOf CX0 P w K mg base N x (defScope (top i)) f cdv A outer s H E).nox (defBody (top i)) t ∧ t { nx := fun _ H' => Q .non H', rt := Q } (start N vs) H) : FnOk P w K mg base CX0 (k + 1) fa fd ps sp :=
  F.ok S len fun cdv A outer s H vs Q E hr h => by
    obtain ⟨t, h1, h2⟩ := hbody fa cdv A outer s H vs Q E hr h
    exact ⟨t, h1.nox, h2⟩
theorem no_split {T : Tree} {S : List Nat} (hw : T.Wf) (h1 : rank S T = 1) (hd : T.depth ≤ 0) : False := by
  cases T with
  | thing t =>
    obtain ⟨x, hx, hxS⟩ := rank_one_out (listed_pos _ hw) h1
    obtain ⟨y, hy, hyS⟩ := rank_ne (S := S) (T := .thing t) (by rw [h1]; decide)
    have ex : x = t := List.mem_singleton.mp hx
    have ey : y = t := List.mem_singleton.mp hy
    exact hxS (by rw [ex, ← ey]; exact hyS)
  | any ps => exact absurd hd (by show ¬ depthL ps + 1 ≤ 0; omega)
  | row ps => exact absurd hd (by show ¬ depthL ps + 1 ≤ 0; omega)
end UR
namespace UR
open PySem PySem.Spec PyProof.Rows L2
theorem sc_is_size : FnScope ["n"] ["n"] (defScope (top 7)) := ⟨rfl, rfl, rfl, by decide +kernel, rfl, by decide +kernel, by decide +kernel⟩
set_option maxHeartbeats 8000000 in
theorem cal_is_size {P : Program} {w : World} {K : PySem.W.Frag} {mg : Str → Option Value} {base : Heap}  (B : Bl mg) (D : DefAt K mg 7 "is_size") {tM : Tok} (hMT : mg "MOST_THINGS" = some (.int 24 tM)) :
    Cal P w K mg base (1) "is_size" ["n"] sp_is_size := by
  have sc := sc_is_size
  refine cal_of D sc (fun kV doc pm an cdv ct us hl => match us, hl with | [_], _ => rfl) (fun vs H Q E h => ?_) (fun f cdv A outer s H vs Q E hr h => ?_)
  · obtain ⟨n, rfl, h1, h2, q⟩ := h
    rfl
  obtain ⟨n, rfl, h1, h2, q⟩ := h
  refine ⟨_, (pss_one (ps_ret (pe_chain op_le op_le pe_int (pv 0) (pe_glob (v := .int 24) rfl hMT ⟨_, rfl⟩)))), ?_⟩
  refine ⟨_, rfl, _, _, rfl, rfl, _, rfl, ite2 (fun _ => ⟨_, _, rfl, rfl, ?_⟩) (fun c => absurd (decide_eq_true (by omega)) c)⟩
  have e : decide ((n : Int) ≤ 24) = true := decide_eq_true (by omega)
  show Q (.bl (decide ((n : Int) ≤ 24))) H
  rw [e]
  exact q
end UR
namespace UR
open PySem PySem.Spec PyProof.Rows L2
theorem sc_check_things : FnScope ["n"] ["n"] (defScope (top 8)) := ⟨rfl, rfl, rfl, by decide +kernel, rfl, by decide +kernel, by decide +kernel⟩
set_option maxHeartbeats 8000000 in
theorem cal_check_things {P : Program} {w : World} {K : PySem.W.Frag} {mg : Str → Option Value} {base : Heap}  (B : Bl mg) (D : DefAt K mg 8 "check_things") (C_is_size : Cal P w K mg base (1) "is_size" ["n"] sp_is_size) :
    Cal P w K mg base (2) "check_things" ["n"] sp_check_things := by
  have sc := sc_check_things
  refine cal_of D sc (fun kV doc pm an cdv ct us hl => match us, hl with | [_], _ => rfl) (fun vs H Q E h => ?_) (fun f cdv A outer s H vs Q E hr h => ?_)
  · obtain ⟨n, rfl, h1, h2, q⟩ := h
    rfl
  obtain ⟨n, rfl, h1, h2, q⟩ := h
  refine ⟨_, (pss_cons (ps_if (pt_not (pt_val (pe_cal C_is_size (hr.mono (by omega)) (by rfl) (pa_cons (pv 0) pa_nil)))) (pss_one ps_never) pss_nil)
    (pss_one (ps_ret (pv 0)))), ?_⟩
  refine ⟨_, rfl, n, rfl, h1, h2, _, rfl, iteF ⟨_, rfl, q⟩⟩
end UR
namespace UR
open PySem PySem.Spec PyProof.Rows L2
theorem sc_is_set : FnScope ["n", "chosen", "at"] ["n", "chosen"] (defScope (top 9)) := ⟨rfl, rfl, rfl, by decide +kernel, rfl, by decide +kernel, by decide +kernel⟩
set_option maxHeartbeats 8000000 in
theorem cal_is_set {P : Program} {w : World} {K : PySem.W.Frag} {mg : Str → Option Value} {base : Heap}  (B : Bl mg) (D : DefAt K mg 9 "is_set")  :
    Cal P w K mg base (1) "is_set" ["n", "chosen"] sp_is_set := by
  have sc := sc_is_set
  refine cal_of D sc (fun kV doc pm an cdv ct us hl => match us, hl with | [_, _], _ => rfl) (fun vs H Q E h => ?_) (fun f cdv A outer s H vs Q E hr h => ?_)
  · obtain ⟨n, v, S, rfl, h24, ⟨a, rfl, hS⟩, ⟨h1, h2⟩, q⟩ := h
    rfl
  obtain ⟨n, v, S, rfl, h24, ⟨a, rfl, hS⟩, ⟨h1, h2⟩, q⟩ := h
  refine ⟨_, (pss_cons (ps_for PassesOwn.never rfl (pi_range1 (by rfl) B.range (pa_cons (pe_callB (call_lenK K) (by rfl) B.len PySem.boot_len (pa_cons (pv 1) pa_nil)) pa_nil)) (pg_name (i := 2) sc.nd rfl (Or.inl rfl)) (pss_cons (ps_if (pt_not (pt_chain op_le op_lt pe_int (pe_ix (ix_tupK K) (pv 1) (pv 2) (fun _ _ => rfl)) (pv 0))) (pss_one (ps_ret pe_bl)) pss_nil)
      (pss_one (ps_if (PW.pt (pw_and (pt_cmpR op_gt (pv 2) pe_int (nomark _)) (pw_and1 (pt_cmpR op_ge (pe_ix (ix_tupK K) (pv 1) (pe_op op_sub (pv 2) pe_int) (fun _ _ => rfl)) (pe_ix (ix_tupK K) (pv 1) (pv 2) (fun _ _ => rfl)) (nomark _))))) (pss_one (ps_ret pe_bl)) pss_nil))))
    (pss_one (ps_ret pe_bl))), ?_⟩
  have hlen : S.length ≤ 24 := by
    have := nodup_length (l := S) (m := List.range n) (h1.imp fun h => Nat.ne_of_lt h) (fun x hx => List.mem_range.mpr (h2 x hx))
    rw [List.length_range] at this
    omega
  have hl : (S.map nV).length = S.length := List.length_map _
  refine ⟨_, rfl, a, _, rfl, .inr (SqT.of hS), _, rfl, by rw [hl]; omega, by rw [hl]; omega, ?_⟩
  refine for_range (lo := 0) (fun i σ H' => H' = H ∧ σ[0]? = some (some (nV n)) ∧ σ[1]? = some (some (.ref a)) ∧ σ.length = 3) ⟨rfl, rfl, rfl, rfl⟩ (fun i σ H' hi p => ?_) (fun σ H' p => ?_)
  · obtain ⟨rfl, p0, p1, p2⟩ := p
    rw [hl] at hi
    have hi' : i < S.length := by omega
    have e0 : (σ.set 2 (some (V.int (0 + (i : Int)))))[0]? = some (some (nV n)) := by rw [List.getElem?_set_ne (by decide)]; exact p0
    have e1 : (σ.set 2 (some (V.int (0 + (i : Int)))))[1]? = some (some (.ref a)) := by rw [List.getElem?_set_ne (by decide)]; exact p1
    have e2 : (σ.set 2 (some (V.int (0 + (i : Int)))))[2]? = some (some (V.int (0 + (i : Int)))) := by rw [List.getElem?_set_self (by omega)]
    have at' : ∀ j (hj : j < S.length), atI (S.map nV) (j : Int) = some (nV S[j]) := fun j hj => atI_nat (by rw [List.getElem?_map, List.getElem?_eq_getElem hj]; rfl)
    have ei : (0 + (i : Int)) = (i : Int) := by omega
    refine ⟨_, e1, _, e2, _, _, _, _, rfl, rfl, SqT.of hS, by rw [ei]; exact at' i hi', _, _, rfl, rfl, _, rfl, ite2 (fun _ => ?_) (fun c => absurd (decide_eq_true (by omega)) c)⟩
    have hin := h2 _ (List.getElem_mem hi')
    refine ⟨_, e0, _, _, rfl, rfl, _, rfl, iteNS (by omega) ?_⟩
    have fin : ({ nx := fun σ' H'' => H'' = H' ∧ σ'[0]? = some (some (nV n)) ∧ σ'[1]? = some (some (.ref a)) ∧ σ'.length = 3, rt := Q } : Ends).nx (σ.set 2 (some (V.int (0 + (i : Int))))) H' := ⟨rfl, e0, e1, by rw [List.length_set]; exact p2⟩
    refine ⟨_, e2, _, _, rfl, rfl, _, rfl, ite2 (fun c => ?_) (fun c => iteF fin)⟩
    have hpos : 0 < i := by have := of_decide_eq_true c; omega
    have e3 : (0 + (i : Int)) - 1 = ((i - 1 : Nat) : Int) := by omega
    refine ⟨_, e1, _, e2, _, _, rfl, rfl, _, _, _, _, rfl, rfl, SqT.of hS, by rw [e3]; exact at' (i - 1) (by omega), _, e1, _, e2, _, _, _, _, rfl, rfl, SqT.of hS, by rw [ei]; exact at' i hi', _, _, rfl, rfl, _, rfl, ?_⟩
    have hlt := List.pairwise_iff_getElem.mp h1 (i - 1) i (by omega) hi' (by omega)
    exact ite2 (fun c => absurd (of_decide_eq_true c) (by omega)) (fun _ => fin)
  · obtain ⟨rfl, p0, p1, p2⟩ := p
    exact q
end UR
namespace UR
open PySem PySem.Spec PyProof.Rows L2
theorem sc_check_set : FnScope ["n", "chosen"] ["n", "chosen"] (defScope (top 10)) := ⟨rfl, rfl, rfl, by decide +kernel, rfl, by decide +kernel, by decide +kernel⟩
set_option maxHeartbeats 8000000 in
theorem cal_check_set {P : Program} {w : World} {K : PySem.W.Frag} {mg : Str → Option Value} {base : Heap}  (B : Bl mg) (D : DefAt K mg 10 "check_set") (C_is_set : Cal P w K mg base (1) "is_set" ["n", "chosen"] sp_is_set) (C_is_size : Cal P w K mg base (1) "is_size" ["n"] sp_is_size) :
    Cal P w K mg base (2) "check_set" ["n", "chosen"] sp_check_set := by
  have sc := sc_check_set
  refine cal_of D sc (fun kV doc pm an cdv ct us hl => match us, hl with | [_, _], _ => rfl) (fun vs H Q E h => ?_) (fun f cdv A outer s H vs Q E hr h => ?_)
  · obtain ⟨n, v, S, rfl, h1, h2, h3, h4, q⟩ := h
    rfl
  obtain ⟨n, v, S, rfl, h1, h2, h3, h4, q⟩ := h
  refine ⟨_, (pss_cons (ps_if (PW.pt (pw_or (pt_not (pt_val (pe_cal C_is_size (hr.mono (by omega)) (by rfl) (pa_cons (pv 0) pa_nil)))) (pw_or1 (pt_not (pt_val (pe_cal C_is_set (hr.mono (by omega)) (by rfl) (pa_cons (pv 0) (pa_cons (pv 1) pa_nil)))))))) (pss_one ps_never) pss_nil)
    (pss_one (ps_ret (pv 1)))), ?_⟩
  refine ⟨_, rfl, n, rfl, h1, h2, _, rfl, iteF ⟨_, rfl, _, rfl, n, v, S, rfl, h2, h3, h4, _, rfl, iteF ⟨_, rfl, q⟩⟩⟩
end UR
namespace UR
open PySem PySem.Spec PyProof.Rows L2
theorem sc_check_table : FnScope ["n", "sets", "chosen"] ["n", "sets"] (defScope (top 11)) := ⟨rfl, rfl, rfl, by decide +kernel, rfl, by decide +kernel, by decide +kernel⟩
set_option maxHeartbeats 8000000 in
theorem cal_check_table {P : Program} {w : World} {K : PySem.W.Frag} {mg : Str → Option Value} {base : Heap}  (B : Bl mg) (D : DefAt K mg 11 "check_table") {tS : Tok} (hMS : mg "MOST_SETS" = some (.int 40 tS)) (C_check_set : Cal P w K mg base (2) "check_set" ["n", "chosen"] sp_check_set) (C_is_size : Cal P w K mg base (1) "is_size" ["n"] sp_is_size) :
    Cal P w K mg base (3) "check_table" ["n", "sets"] sp_check_table := by
  have sc := sc_check_table
  refine cal_of D sc (fun kV doc pm an cdv ct us hl => match us, hl with | [_, _], _ => rfl) (fun vs H Q E h => ?_) (fun f cdv A outer s H vs Q E hr h => ?_)
  · obtain ⟨n, v, sets, rfl, hT, hok, q⟩ := h
    rfl
  obtain ⟨n, v, sets, rfl, hT, hok, q⟩ := h
  refine ⟨_, (pss_cons (ps_if (PW.pt (pw_or (pt_not (pt_val (pe_cal C_is_size (hr.mono (by omega)) (by rfl) (pa_cons (pv 0) pa_nil)))) (pw_or1 (pt_cmpR op_gt (pe_callB (call_lenK K) (by rfl) B.len PySem.boot_len (pa_cons (pv 1) pa_nil)) (pe_glob (v := .int 40) rfl hMS ⟨_, rfl⟩) (nomark _))))) (pss_one ps_never) pss_nil)
    (pss_cons (ps_for PassesOwn.never rfl (pi_tupK K (pv 1)) (pg_name (i := 2) sc.nd rfl (Or.inl rfl)) (pss_one (ps_expr (pe_cal C_check_set (hr.mono (by omega)) (by rfl) (pa_cons (pv 0) (pa_cons (pv 2) pa_nil))))))
    (pss_one (ps_ret (pv 1))))), ?_⟩
  obtain ⟨a, ws, rfl, ha, hws⟩ := id hT
  obtain ⟨h1, h2, h3, h4⟩ := hok
  have hl := hws.length
  refine ⟨_, rfl, n, rfl, h1, h2, _, rfl, iteF ⟨_, rfl, a, _, rfl, .inr (SqT.of ha), _, _, rfl, rfl, _, rfl, ite2 (fun c => absurd (of_decide_eq_true c) (by omega)) (fun _ => ?_)⟩⟩
  refine ⟨_, rfl, a, rfl, ⟨_, SqT.of ha⟩, ?_⟩
  refine for_tup (xs := ws) (fun i σ H' => H' = H ∧ σ[0]? = some (some (nV n)) ∧ σ[1]? = some (some (.ref a)) ∧ σ.length = 3) ⟨rfl, rfl, rfl, rfl⟩ (fun i σ H' _ p => by obtain ⟨rfl, _⟩ := p; exact SqT.of ha) (fun i x σ H' hi p => ?_) (fun σ H' p => ?_)
  · obtain ⟨rfl, p0, p1, p2⟩ := p
    obtain ⟨S, hS, hx⟩ := hws.get hi
    have e0 : (σ.set 2 (some x))[0]? = some (some (nV n)) := by rw [List.getElem?_set_ne (by decide)]; exact p0
    have e1 : (σ.set 2 (some x))[1]? = some (some (.ref a)) := by rw [List.getElem?_set_ne (by decide)]; exact p1
    have e2 : (σ.set 2 (some x))[2]? = some (some x) := by rw [List.getElem?_set_self (by omega)]
    exact ⟨_, e0, _, e2, n, x, S, rfl, h1, h2, hx, h4 S (List.mem_of_getElem? hS), rfl, e0, e1, by rw [List.length_set]; exact p2⟩
  · obtain ⟨rfl, p0, p1, p2⟩ := p
    exact ⟨_, p1, q⟩
end UR
namespace UR
open PySem PySem.Spec PyProof.Rows L2
theorem sc_is_thing : FnScope ["tree"] ["tree"] (defScope (top 13)) := ⟨rfl, rfl, rfl, by decide +kernel, rfl, by decide +kernel, by decide +kernel⟩
set_option maxHeartbeats 8000000 in
theorem cal_is_thing {P : Program} {w : World} {K : PySem.W.Frag} {mg : Str → Option Value} {base : Heap}  (B : Bl mg) (D : DefAt K mg 13 "is_thing")  :
    Cal P w K mg base (1) "is_thing" ["tree"] sp_is_thing := by
  have sc := sc_is_thing
  refine cal_of D sc (fun kV doc pm an cdv ct us hl => match us, hl with | [_], _ => rfl) (fun vs H Q E h => ?_) (fun f cdv A outer s H vs Q E hr h => ?_)
  · obtain ⟨v, T, rfl, hT, q⟩ := h
    rfl
  obtain ⟨v, T, rfl, hT, q⟩ := h
  refine ⟨_, (pss_one (ps_ret (pe_callB (call_isiKK K) (by rfl) B.isi (by decide +kernel) (pa_cons (pv 0) (pa_cons (pe_bltn (v := .ty "int") (u := .type "int") (by rfl) B.int (by decide +kernel) rfl) pa_nil))))), ?_⟩
  cases T with
  | thing t =>
    have hT : v = nV t := hT
    subst hT
    exact ⟨_, rfl, _, _, _, _, _, rfl, .ty "int", .base (.int _), kit_ty (r := true) (by decide +kernel), q⟩
  | any ps =>
    obtain ⟨a, b, vs, rfl, h1, _⟩ := hT
    exact ⟨_, rfl, _, _, _, _, _, rfl, .ty "int", .base (.tup h1), kit_ty (r := false) (by decide +kernel), q⟩
  | row ps =>
    obtain ⟨a, b, vs, rfl, h1, _⟩ := hT
    exact ⟨_, rfl, _, _, _, _, _, rfl, .ty "int", .base (.tup h1), kit_ty (r := false) (by decide +kernel), q⟩
end UR
namespace UR
open PySem PySem.Spec PyProof.Rows L2
theorem sc_listed : FnScope ["tree", "found", "part"] ["tree"] (defScope (top 14)) := ⟨rfl, rfl, rfl, by decide +kernel, rfl, by decide +kernel, by decide +kernel⟩
set_option maxHeartbeats 8000000 in
theorem cal_listed {P : Program} {w : World} {K : PySem.W.Frag} {mg : Str → Option Value} {base : Heap} {n : Nat} (B : Bl mg) (D : DefAt K mg 14 "listed") (C_is_thing : Cal P w K mg base (1) "is_thing" ["tree"] sp_is_thing) (C_listed : Cal P w K mg base (n + 1) "listed" ["tree"] (sp_listed n)) :
    Cal P w K mg base (n + 2) "listed" ["tree"] (sp_listed (n + 1)) := by
  have sc := sc_listed
  refine cal_of D sc (fun kV doc pm an cdv ct us hl => match us, hl with | [_], _ => rfl) (fun vs H Q E h => ?_) (fun f cdv A outer s H vs Q E hr h => ?_)
  · obtain ⟨v, T, rfl, hT, hd, hz, q⟩ := h
    rfl
  obtain ⟨v, T, rfl, hT, hd, hz, q⟩ := h
  refine ⟨_, (pss_cons (ps_if (pt_val (pe_cal C_is_thing (hr.mono (by omega)) (by rfl) (pa_cons (pv 0) pa_nil))) (pss_one (ps_ret (pe_lst (pa_cons (pv 0) pa_nil)))) pss_nil)
    (pss_cons (ps_set (i := 1) sc.nd rfl (Or.inl rfl) (pe_lst pa_nil))
    (pss_cons (ps_for PassesOwn.never rfl (pi_tupK K (pe_ix (ix_tupK K) (pv 0) pe_int (fun _ _ => rfl))) (pg_name (i := 2) sc.nd rfl (Or.inl rfl)) (pss_one (ps_expr (pe_bm PySem.F.plainAttrs_list PySem.F.slot_list_extend PySem.F.type_list_extend mt_extend (pv 1) (pa_cons (pe_cal C_listed (hr.mono (by omega)) (by rfl) (pa_cons (pv 2) pa_nil)) pa_nil)))))
    (pss_one (ps_ret (pv 1)))))), ?_⟩
  refine ⟨_, rfl, v, T, rfl, hT, _, rfl, ite2 (fun c => ?_) (fun c => ?_)⟩
  · cases T with
    | thing t =>
      have hT : v = nV t := hT
      subst hT
      exact ⟨_, rfl, by show 1 ≤ sizeLine; decide, fun p hp => q p _ (same_new hp _) hp upd_same⟩
    | any ps => cases c
    | row ps => cases c
  · obtain ⟨⟨a, b, vs, rfl, ha, hb, hvs⟩, el, ed⟩ := treeP hT (by simpa using c)
    refine ⟨by show 0 ≤ sizeLine; decide, fun p hp => ?_⟩
    have s0 := same_new hp (.lst [])
    refine ⟨_, rfl, _, _, _, _, rfl, rfl, SqT.of (s0 _ _ ha), at1, b, rfl, ⟨_, SqT.of (s0 _ _ hb)⟩, ?_⟩
    refine for_tup (xs := vs) (fun i σ H' => Same H H' ∧ H' p = some (.lst ((listedL ((partsOf T).take i)).map nV)) ∧ σ[1]? = some (some (.ref p)) ∧ σ.length = 3) ⟨s0, upd_same, rfl, rfl⟩
      (fun i σ H' _ g => SqT.of (g.1 _ _ hb)) (fun i x σ H' hi g => ?_) (fun σ H' g => ?_)
    · obtain ⟨g1, g2, g3, g4⟩ := g
      obtain ⟨t, ht, hx⟩ := hvs.get hi
      have tm := List.mem_of_getElem? ht
      have hl1 := listed_part tm
      refine ⟨_, getS g3 (by decide), .inl ⟨rfl, _, SqL.of g2⟩, _, setS (by omega), x, t, rfl, hx.tk (tk g1), ?_, by rw [el] at hz; omega, fun r H2 e2 _ hr => ?_⟩
      · have := depthL_le.mp (Nat.le_refl (depthL (partsOf T))) t tm
        omega
      · refine ⟨p, r, _, _, rfl, rfl, e2 _ _ g2, hr, ?_, same_mut (g1.trans e2) hp, ?_, getS g3 (by decide), by rw [List.length_set]; exact g4⟩
        · rw [List.length_map, List.length_map]
          have h1 : (listedL ((partsOf T).take i)).length ≤ (listedL (partsOf T)).length := (listedL_sublist (List.take_sublist _ _)).length_le
          rw [el] at hz
          exact sz (by omega)
        · rw [listedL_take ht, List.map_append]
          exact upd_same
    · obtain ⟨g1, g2, g3, g4⟩ := g
      refine ⟨_, g3, q p H' g1 hp ?_⟩
      rw [hvs.length, List.take_length] at g2
      rw [el]
      exact g2
end UR
namespace UR
open PySem PySem.Spec PyProof.Rows L2
theorem sc_least_thing : FnScope ["tree"] ["tree"] (defScope (top 15)) := ⟨rfl, rfl, rfl, by decide +kernel, rfl, by decide +kernel, by decide +kernel⟩
set_option maxHeartbeats 8000000 in
theorem cal_least_thing {P : Program} {w : World} {K : PySem.W.Frag} {mg : Str → Option Value} {base : Heap}  (B : Bl mg) (D : DefAt K mg 15 "least_thing") (C_listed : Cal P w K mg base (24 + 2) "listed" ["tree"] (sp_listed 24)) :
    Cal P w K mg base (30) "least_thing" ["tree"] sp_least_thing := by
  have sc := sc_least_thing
  refine cal_of D sc (fun kV doc pm an cdv ct us hl => match us, hl with | [_], _ => rfl) (fun vs H Q E h => ?_) (fun f cdv A outer s H vs Q E hr h => ?_)
  · obtain ⟨v, T, rfl, hT, hk, q⟩ := h
    rfl
  obtain ⟨v, T, rfl, hT, hk, q⟩ := h
  refine ⟨_, (pss_one (ps_ret (pe_callB (cr_minK K rfl) (by rfl) B.min (by decide +kernel) (pa_cons (pe_cal C_listed (hr.mono (by omega)) (by rfl) (pa_cons (pv 0) pa_nil)) pa_nil)))), ?_⟩
  refine ⟨_, rfl, v, T, rfl, hT, TOk.depth hk, hk.2, fun p H' e _ hp => ?_⟩
  have e2 : T.listed.map nV = (T.listed.map Int.ofNat).map V.int := by rw [List.map_map]; rfl
  refine ⟨p, T.listed.map Int.ofNat, rfl, SqL.of (by rw [hp, e2]), by rw [List.length_map]; exact listed_pos T hk.1, fun m hm _ => ?_⟩
  obtain ⟨m', _, rfl⟩ := List.mem_map.mp hm
  exact q m' H' e
end UR
namespace UR
open PySem PySem.Spec PyProof.Rows L2
theorem sc_make_any : FnScope ["parts"] ["parts"] (defScope (top 16)) := ⟨rfl, rfl, rfl, by decide +kernel, rfl, by decide +kernel, by decide +kernel⟩
set_option maxHeartbeats 8000000 in
theorem cal_make_any {P : Program} {w : World} {K : PySem.W.Frag} {mg : Str → Option Value} {base : Heap}  (B : Bl mg) (D : DefAt K mg 16 "make_any")  :
    Cal P w K mg base (1) "make_any" ["parts"] sp_make_any := by
  have sc := sc_make_any
  refine cal_of D sc (fun kV doc pm an cdv ct us hl => match us, hl with | [_], _ => rfl) (fun vs H Q E h => ?_) (fun f cdv A outer s H vs Q E hr h => ?_)
  · obtain ⟨a, ws, ps, rfl, ha, hps, hz, q⟩ := h
    rfl
  obtain ⟨a, ws, ps, rfl, ha, hps, hz, q⟩ := h
  refine ⟨_, (pss_cons (ps_if (pt_cmpR op_eq (pe_callB (call_lenK K) (by rfl) B.len PySem.boot_len (pa_cons (pv 0) pa_nil)) pe_int (nomark _)) (pss_one (ps_ret (pe_ix (ix_listK K) (pv 0) pe_int (fun _ _ => rfl)))) pss_nil)
    (pss_one (ps_ret (pe_tup (pa_cons pe_str (pa_cons (pe_callTy (call_tupleK K) (by rfl) B.tuple (by decide +kernel) (pa_cons (pv 0) pa_nil)) pa_nil)))))), ?_⟩
  have hl := hps.length
  have many : makeAny ps = .any ps → Q (.ref 0) H ∨ True → ∀ b t, H b = none → upd H b (.tup ws) t = none → Q (.ref t) (upd (upd H b (.tup ws)) t (.tup [.str "any", .ref b])) := fun e _ b t hb ht => by
    have s1 := (same_new hb (.tup ws)).trans (same_new ht (.tup [.str "any", .ref b]))
    refine q _ _ s1 ?_
    rw [e]
    exact ⟨t, b, ws, rfl, upd_same, same_new ht _ _ _ upd_same, hps.tk (tk s1)⟩
  refine ⟨_, rfl, a, _, rfl, .inl (SqL.of ha), rfl, _, rfl, ite2 (fun c => ?_) (fun c => ?_)⟩
  · have c' : V.int (ws.length : Int) = V.int 1 := of_decide_eq_true c
    have c2 : ws.length = 1 := by
      have : (ws.length : Int) = 1 := V.int.inj c'
      omega
    match ps, ws, hps, hl, c2 with
    | [p], [v], hps, _, _ =>
      obtain ⟨v', r, e, h1, _⟩ := hps
      cases e
      exact ⟨_, rfl, a, _, _, _, rfl, rfl, SqL.of ha, at0, q _ _ (Same.refl _) h1⟩
  · have c2 : ps.length ≠ 1 := fun z => c (decide_eq_true (by rw [hl, z]; rfl))
    have e : makeAny ps = .any ps := by
      unfold makeAny
      split
      · exact absurd rfl c2
      · rfl
    exact ⟨_, rfl, a, ws, rfl, .inl ⟨SqL.of ha, fun b hb => ⟨by show 2 ≤ sizeLine; decide, fun t ht => many e (.inr trivial) b t hb ht⟩⟩⟩
end UR
namespace UR
open PySem PySem.Spec PyProof.Rows L2
theorem sc_make_row : FnScope ["parts"] ["parts"] (defScope (top 17)) := ⟨rfl, rfl, rfl, by decide +kernel, rfl, by decide +kernel, by decide +kernel⟩
set_option maxHeartbeats 8000000 in
theorem cal_make_row {P : Program} {w : World} {K : PySem.W.Frag} {mg : Str → Option Value} {base : Heap}  (B : Bl mg) (D : DefAt K mg 17 "make_row") (C_make_any : Cal P w K mg base (1) "make_any" ["parts"] sp_make_any) :
    Cal P w K mg base (2) "make_row" ["parts"] sp_make_row := by
  have sc := sc_make_row
  refine cal_of D sc (fun kV doc pm an cdv ct us hl => match us, hl with | [_], _ => rfl) (fun vs H Q E h => ?_) (fun f cdv A outer s H vs Q E hr h => ?_)
  · obtain ⟨a, ws, ps, rfl, ha, hps, hz, q⟩ := h
    rfl
  obtain ⟨a, ws, ps, rfl, ha, hps, hz, q⟩ := h
  refine ⟨_, (pss_cons (ps_if (pt_cmpR op_lt (pe_callB (call_lenK K) (by rfl) B.len PySem.boot_len (pa_cons (pv 0) pa_nil)) pe_int (nomark _)) (pss_one (ps_ret (pe_cal C_make_any (hr.mono (by omega)) (by rfl) (pa_cons (pv 0) pa_nil)))) pss_nil)
    (pss_one (ps_ret (pe_tup (pa_cons pe_str (pa_cons (pe_callTy (call_tupleK K) (by rfl) B.tuple (by decide +kernel) (pa_cons (pv 0) pa_nil)) pa_nil)))))), ?_⟩
  have hl := hps.length
  refine ⟨_, rfl, a, _, rfl, .inl (SqL.of ha), _, _, rfl, rfl, _, rfl, ite2 (fun c => ?_) (fun c => ?_)⟩
  · have c' := of_decide_eq_true c
    refine ⟨_, rfl, a, ws, ps, rfl, ha, hps, hz, ?_⟩
    have e : makeRow ps = makeAny ps := by unfold makeRow; rw [if_pos (by omega)]
    rw [← e]
    exact q
  · have c2 : ¬ ps.length < 3 := fun z => c (decide_eq_true (by omega))
    have e : makeRow ps = .row ps := by unfold makeRow; rw [if_neg c2]
    refine ⟨_, rfl, a, ws, rfl, .inl ⟨SqL.of ha, fun b hb => ⟨by show 2 ≤ sizeLine; decide, fun t ht => ?_⟩⟩⟩
    have s1 := (same_new hb (.tup ws)).trans (same_new ht (.tup [.str "row", .ref b]))
    refine q _ _ s1 ?_
    rw [e]
    exact ⟨t, b, ws, rfl, upd_same, same_new ht _ _ _ upd_same, hps.tk (tk s1)⟩
end UR
namespace UR
open PySem PySem.Spec PyProof.Rows L2
theorem sc_normalized : FnScope ["tree", "parts", "order", "part", "index", "_"] ["tree"] (defScope (top 18)) := ⟨rfl, rfl, rfl, by decide +kernel, rfl, by decide +kernel, by decide +kernel⟩
set_option maxHeartbeats 8000000 in
theorem cal_normalized {P : Program} {w : World} {K : PySem.W.Frag} {mg : Str → Option Value} {base : Heap} {n : Nat} (B : Bl mg) (D : DefAt K mg 18 "normalized") (C_is_thing : Cal P w K mg base (1) "is_thing" ["tree"] sp_is_thing) (C_least_thing : Cal P w K mg base (30) "least_thing" ["tree"] sp_least_thing) (C_normalized : Cal P w K mg base (n + 31) "normalized" ["tree"] (sp_normalized n)) :
    Cal P w K mg base (n + 32) "normalized" ["tree"] (sp_normalized (n + 1)) := by
  have sc := sc_normalized
  refine cal_of D sc (fun kV doc pm an cdv ct us hl => match us, hl with | [_], _ => rfl) (fun vs H Q E h => ?_) (fun f cdv A outer s H vs Q E hr h => ?_)
  · obtain ⟨v, T, rfl, hT, hd, hok, q⟩ := h
    rfl
  obtain ⟨v, T, rfl, hT, hd, hok, q⟩ := h
  refine ⟨_, (pss_cons (ps_if (pt_val (pe_cal C_is_thing (hr.mono (by omega)) (by rfl) (pa_cons (pv 0) pa_nil))) (pss_one (ps_ret (pv 0))) pss_nil)
    (pss_cons (ps_set (i := 1) sc.nd rfl (Or.inr rfl) (pe_lc (own := [("part", 3)]) rfl sc.nd (pi_tupK K (pe_ix (ix_tupK K) (pv 0) pe_int (fun _ _ => rfl))) (blkOk_by (N := ["tree", "parts", "order", "part", "index", "_"]) (sc := defScope (top 18)) (by decide +kernel)) (fun _ _ _ _ _ => (pg_name (i := 3) sc.nd rfl (Or.inl rfl))) (fun _ _ _ _ _ => pts_nil) (fun _ _ _ _ _ => (pe_cal C_normalized (hr.mono (by omega)) (by rfl) (pa_cons (pv 3) pa_nil)))))
    (pss_cons (ps_if (pt_cmpR op_eq (pe_ix (ix_tupK K) (pv 0) pe_int (fun _ _ => rfl)) pe_str (nomark _)) (pss_cons (ps_set (i := 2) sc.nd rfl (Or.inl rfl) (pe_callB (cr_sortedPOK K) (by rfl) B.sorted (by decide +kernel) (pa_cons (pe_lc (own := [("index", 4), ("part", 3)]) rfl sc.nd (pi_enumK K (by rfl) B.enum (pa_cons (pv 1) pa_nil)) (blkOk_by (N := ["tree", "parts", "order", "part", "index", "_"]) (sc := defScope (top 18)) (by decide +kernel)) (fun _ _ _ _ _ => (pg_tupK K 2 rfl (pgs_cons (pg_name (i := 4) sc.nd rfl (Or.inl rfl) (Or.inr rfl)) (pgs_cons (pg_name (i := 3) sc.nd rfl (Or.inl rfl) (Or.inr rfl)) pgs_nil)))) (fun _ _ _ _ _ => pts_nil) (fun _ _ _ _ _ => (pe_tup (pa_cons (pe_cal C_least_thing (hr.mono (by omega)) (by rfl) (pa_cons (pv 3) pa_nil)) (pa_cons (pv 4) pa_nil))))) pa_nil)))
      (pss_one (ps_ret (pe_tup (pa_cons pe_str (pa_cons (pe_callTy (call_tupleK K) (by rfl) B.tuple (by decide +kernel) (pa_cons (pe_lc (own := [("_", 5), ("index", 4)]) rfl sc.nd (pi_listK K (pv 2)) (blkOk_by (N := ["tree", "parts", "order", "part", "index", "_"]) (sc := defScope (top 18)) (by decide +kernel)) (fun _ _ _ _ _ => (pg_tupK K 2 rfl (pgs_cons (pg_name (i := 5) sc.nd rfl (Or.inl rfl) (Or.inr rfl)) (pgs_cons (pg_name (i := 4) sc.nd rfl (Or.inl rfl) (Or.inr rfl)) pgs_nil)))) (fun _ _ _ _ _ => pts_nil) (fun _ _ _ _ _ => (pe_ix (ix_listK K) (pv 1) (pv 4) (fun _ _ => rfl)))) pa_nil)) pa_nil)))))) pss_nil)
    (Evl.pss_cut (ps_if (pt_cmpR op_gt (pe_cal C_least_thing (hr.mono (by omega)) (by rfl) (pa_cons (pe_ix (ix_listK K) (pv 1) pe_int (fun _ _ => rfl)) pa_nil)) (pe_cal C_least_thing (hr.mono (by omega)) (by rfl) (pa_cons (pe_ix (ix_listK K) (pv 1) (pe_un un_neg pe_int) (fun _ _ => rfl)) pa_nil)) (nomark _)) (pss_one (ps_set (i := 1) sc.nd rfl (Or.inr rfl) (pe_revLK K (pv 1)))) pss_nil)
    (pss_one (ps_ret (pe_tup (pa_cons pe_str (pa_cons (pe_callTy (call_tupleK K) (by rfl) B.tuple (by decide +kernel) (pa_cons (pv 1) pa_nil)) pa_nil))))))))), ?_⟩
  refine ⟨_, rfl, v, T, rfl, hT, _, rfl, ite2 (fun ct => ?_) (fun ct => ?_)⟩
  · cases T with
    | thing t => exact ⟨_, rfl, q (.thing t) (Alike.refl _) v H (Same.refl _) hT⟩
    | any ps => cases ct
    | row ps => cases ct
  have ht : isThing T = false := by simpa using ct
  obtain ⟨⟨a, b, ws, rfl, ha, hb, hws⟩, el, ed⟩ := treeP hT ht
  have hp : PsOk (partsOf T) := ⟨wfParts hok.1, by rw [← el]; exact hok.2⟩
  have lw := hws.length
  have k0 := hp.len
  -- the parts
  refine ⟨_, rfl, _, _, _, _, rfl, rfl, SqT.of ha, at1, b, rfl, ⟨_, SqT.of hb⟩, fun D nD => ?_⟩
  refine lc_tup (K := K) (a := b) (xs := ws) (LcInv H D fun i ys H' => ∃ us, TreesIn H' ys us ∧ All2 Alike ((partsOf T).take i) us) (lc_start nD ⟨[], .nil, .nil⟩) (fun i H' _ g => SqT.of (g.2.1 _ _ hb)) (fun i x H' hi g => ?_) (fun H1 g => ?_)
  · obtain ⟨g1, g2, ys, g3, g4, us, g5, g6⟩ := g
    obtain ⟨t, ht', hx⟩ := hws.get hi
    have tm := List.mem_of_getElem? ht'
    have hi2 : i < 24 := by
      have := (List.getElem?_eq_some_iff.mp ht').1
      omega
    refine ⟨rfl, tyes ⟨_, rfl, x, t, rfl, hx.tk (tk g2), by have := part_depth (Nat.le_refl (depthL (partsOf T))) tm; omega, hp.part tm, fun U hU u H2 s2 hu => ?_⟩⟩
    have kk := tk_lst (s2 _ _ g3) (.lst (ys ++ [u]))
    refine lc_put (by omega) g1 (g2.trans s2) (s2 _ _ g3) g4 ⟨us ++ [U], (g5.tk ((tk s2).trans kk)).snoc (hu.tk kk), ?_⟩
    rw [List.take_add_one, ht']
    exact g6.snoc hU
  obtain ⟨_, s1, ys, hD, _, us, hus, hal⟩ := g
  rw [lw, List.take_length] at hal
  have hok2 := psOk_alike hp hal
  have lu := hus.length
  have lal := hal.length
  refine ⟨_, rfl, _, _, _, _, rfl, rfl, SqT.of (s1 _ _ ha), at0, rfl, _, rfl, ite2 (fun d => ?_) (fun d => ?_)⟩
  · -- any
    have ew : wordOf T = "any" := by
      have d1 : V.str (wordOf T) = V.str "any" := of_decide_eq_true d
      exact V.str.inj d1
    obtain ⟨ps, rfl⟩ : ∃ ps, T = .any ps := by
      cases T with
      | thing t => cases ht
      | any ps => exact ⟨ps, rfl⟩
      | row ps => exact absurd ew (show ¬ ("row" : Str) = "any" by decide)
    -- the pairs
    refine ⟨_, rfl, D, ys, rfl, SqL.of hD, fun E nE => ?_⟩
    refine lc_enum (K := K) (a := D) (xs := ys) (LcInv H1 E fun i zs H' => zs.length = i ∧ ∀ j y, zs[j]? = some y → ∃ t m, y = .ref t ∧ H' t = some (.tup [nV m, nV j])) (lc_start nE ⟨rfl, fun j y h => by simp at h⟩) (fun i H' _ g => SqL.of (g.2.1 _ _ hD)) (fun i x H' Z hi g nZ => ?_) (fun H2 g => ?_)
    · obtain ⟨g1, g2, zs, g3, g4, g5, g6⟩ := g
      obtain ⟨t, ht', hx⟩ := hus.get hi
      have tm := List.mem_of_getElem? ht'
      have hi2 : i < 24 := by
        have := (List.getElem?_eq_some_iff.mp ht').1
        omega
      have sZ := same_new nZ (.tup [.int (i : Nat), x])
      refine ⟨Z, _, rfl, SqT.of upd_same, rfl, _, _, rfl, _, _, rfl, rfl, rfl, tyes ⟨_, rfl, x, t, rfl, hx.tk ((tk g2).trans (tk sZ)), hok2.part tm, fun m H3 s3 => ?_⟩⟩
      refine ⟨_, rfl, by show 2 ≤ sizeLine; decide, fun p np => ?_⟩
      have s4 := same_new np (.tup [nV m, .int (i : Nat)])
      have sx := sZ.trans (s3.trans s4)
      have kk := tk_lst (sx _ _ g3) (.lst (zs ++ [.ref p]))
      refine lc_put (by omega) g1 (g2.trans sx) (sx _ _ g3) g4 ⟨by rw [List.length_append, g5]; rfl, fun j y hy => ?_⟩
      by_cases hj : j < zs.length
      · rw [List.getElem?_append_left hj] at hy
        obtain ⟨t', m', e1, e2⟩ := g6 j y hy
        exact ⟨t', m', e1, kk _ _ (tk sx _ _ e2)⟩
      · rw [List.getElem?_append_right (by omega)] at hy
        have hj2 : j = i := by
          have := (List.getElem?_eq_some_iff.mp hy).1
          simp only [List.length_singleton] at this
          omega
        subst hj2
        rw [g5, Nat.sub_self] at hy
        have hy : V.ref p = y := Option.some.inj hy
        subst hy
        exact ⟨p, m, rfl, kk _ _ upd_same⟩
    obtain ⟨_, s2, zs, hE, _, hz1, hz2⟩ := g
    have hpair : ∀ x ∈ zs, ∃ t, x = V.ref t ∧ H2 t = some (.tup [.int (pairOf H2 x).1, .int (pairOf H2 x).2]) := fun x hx => by
      obtain ⟨j, hj⟩ := List.getElem?_of_mem hx
      obtain ⟨t, m, rfl, e⟩ := hz2 j x hj
      exact ⟨t, rfl, by rw [pairOf_at (a := (m : Int)) (b := (j : Int)) e]; exact e⟩
    refine ⟨E, zs, pairOf H2, rfl, SqL.of hE, hpair, fun os po _ hstb npo => ?_⟩
    have hperm := hstb.perm
    have s3 := same_new npo (.lst os)
    have idx : ∀ x ∈ zs, ∃ t m j, x = V.ref t ∧ H2 t = some (.tup [nV m, nV j]) ∧ (pairOf H2 x).2.toNat = j ∧ j < us.length ∧ zs[j]? = some x := fun x hx => by
      obtain ⟨j, hj⟩ := List.getElem?_of_mem hx
      obtain ⟨t, m, rfl, e⟩ := hz2 j x hj
      have hlt := (List.getElem?_eq_some_iff.mp hj).1
      exact ⟨t, m, j, rfl, e, by rw [pairOf_at (a := (m : Int)) (b := (j : Int)) e]; rfl, by omega, hj⟩
    -- the parts in order
    refine ⟨_, rfl, po, rfl, ⟨_, SqL.of upd_same⟩, fun F nF => ?_⟩
    refine lc_list (K := K) (a := po) (xs := os) (LcInv (upd H2 po (.lst os)) F fun i zs' _ => zs' = (os.take i).map fun x => ys.getD (pairOf H2 x).2.toNat .non) (lc_start nF rfl) (fun i H' _ g => SqL.of (g.2.1 _ _ upd_same)) (fun i x H' hi g => ?_) (fun H3 g => ?_)
    · obtain ⟨g1, g2, zs', g3, g4, g5⟩ := g
      obtain ⟨t, m, j, rfl, e1, e2, e3, e4⟩ := idx x (hperm.mem_iff.mp (List.mem_of_getElem? hi))
      have hi2 : i < 24 := by
        have := (List.getElem?_eq_some_iff.mp hi).1
        have := hperm.length_eq
        omega
      have sx := s3.trans g2
      refine ⟨t, _, rfl, SqT.of (sx _ _ e1), rfl, _, _, rfl, _, _, rfl, rfl, rfl, tyes ⟨_, rfl, _, rfl, _, _, _, _, rfl, rfl, SqL.of (sx _ _ (s2 _ _ hD)), atI_nat (List.getElem?_eq_getElem (by omega)), ?_⟩⟩
      refine lc_put (by omega) g1 g2 g3 g4 ?_
      rw [List.take_add_one, hi, List.map_append, ← g5]
      show zs' ++ [_] = zs' ++ [ys.getD (pairOf H2 (.ref t)).2.toNat .non]
      rw [e2, getD_at _ (by omega : j < ys.length)]
    obtain ⟨_, s4, zs', hF, _, hz'⟩ := g
    rw [List.take_length] at hz'
    subst hz'
    have sx := s1.trans (s2.trans (s3.trans s4))
    refine ⟨F, _, rfl, .inl ⟨SqL.of hF, fun pt npt => ⟨by show 2 ≤ sizeLine; decide, fun pr npr => ?_⟩⟩⟩
    have s5 := same_new npt (.tup (os.map fun x => ys.getD (pairOf H2 x).2.toNat .non))
    have s6 := same_new npr (.tup [.str "any", .ref pt])
    have husz : zs.map (fun x => us.getD (pairOf H2 x).2.toNat default) = us := by
      apply List.ext_getElem
      · rw [List.length_map]; omega
      · intro j h1 h2
        rw [List.getElem_map]
        have hj : zs[j]? = some zs[j] := List.getElem?_eq_getElem (by simpa using h1)
        obtain ⟨t, m, e, e1⟩ := hz2 j _ hj
        rw [e, pairOf_at (a := (m : Int)) (b := (j : Int)) e1]
        exact getD_at _ h2
    refine q _ (alike_any (rs := os.map fun x => us.getD (pairOf H2 x).2.toNat default) hal ?_) _ _ (sx.trans (s5.trans s6)) ⟨pr, pt, _, rfl, upd_same, s6 _ _ upd_same, treesIn_map fun x hx => ?_⟩
    · have := hperm.map (fun x => us.getD (pairOf H2 x).2.toNat default)
      rwa [husz] at this
    · obtain ⟨t, m, j, rfl, e1, e2, e3, e4⟩ := idx x (hperm.mem_iff.mp hx)
      rw [e2, getD_at _ (by omega : j < ys.length), getD_at _ e3]
      obtain ⟨p, hpp, hxp⟩ := hus.get (List.getElem?_eq_getElem (by omega : j < ys.length))
      have ep : us[j] = p := by rw [List.getElem?_eq_getElem e3] at hpp; exact Option.some.inj hpp
      rw [ep]
      exact hxp.tk ((tk (s2.trans (s3.trans s4))).trans (tk (s5.trans s6)))
  · -- row
    obtain ⟨ps, rfl⟩ : ∃ ps, T = .row ps := by
      cases T with
      | thing t => cases ht
      | any ps => exact absurd (decide_eq_true rfl) d
      | row ps => exact ⟨ps, rfl⟩
    have h3 : 3 ≤ ps.length := hok.1.1
    have lal : ps.length = us.length := lal
    refine ⟨fun σ H' => Same H H' ∧ ∃ p vs' us', σ[1]? = some (some (.ref p)) ∧ H' p = some (.lst vs') ∧ TreesIn H' vs' us' ∧ (us' = us ∨ us' = us.reverse), ?_, fun σ H' m => ?_⟩
    · obtain ⟨u0, hu0⟩ : ∃ u, us[0]? = some u := ⟨_, List.getElem?_eq_getElem (by omega)⟩
      obtain ⟨y0, hy0⟩ : ∃ y, ys[0]? = some y := ⟨_, List.getElem?_eq_getElem (by omega)⟩
      obtain ⟨y9, hy9⟩ : ∃ y, ys.getLast? = some y := ⟨_, List.getLast?_eq_some_getLast (fun z => by rw [z] at lu; simp at lu; omega)⟩
      have hy9' : ys[ys.length - 1]? = some y9 := by rw [← List.getLast?_eq_getElem?]; exact hy9
      obtain ⟨p0, hp0, hyp0⟩ := hus.get hy0
      obtain ⟨p9, hp9, hyp9⟩ := hus.get hy9'
      refine ⟨_, rfl, _, _, _, _, rfl, rfl, SqL.of hD, (atI_nat (j := 0) hy0), y0, p0, rfl, hyp0, hok2.part (List.mem_of_getElem? hp0), fun m0 H2 s2 => ?_⟩
      refine ⟨_, rfl, 1, rfl, _, _, _, _, rfl, rfl, SqL.of (s2 _ _ hD), at_neg1 hy9, y9, p9, rfl, hyp9.tk (tk s2), hok2.part (List.mem_of_getElem? hp9), fun m9 H3 s3 => ?_⟩
      have s23 := s2.trans s3
      refine ⟨_, _, rfl, rfl, _, rfl, ite2 (fun e => ?_) (fun e => ?_)⟩
      · refine ⟨_, rfl, D, ys, rfl, SqL.of (s23 _ _ hD), fun p np => ?_⟩
        have s4 := same_new np (.lst ys.reverse)
        exact ⟨s1.trans (s23.trans s4), p, ys.reverse, us.reverse, rfl, upd_same, (hus.tk (tk (s23.trans s4))).reverse, .inr rfl⟩
      · exact ⟨s1.trans s23, D, ys, us, rfl, s23 _ _ hD, hus.tk (tk s23), .inl rfl⟩
    obtain ⟨m1, p, vs', us', m2, m3, m4, m5⟩ := m
    refine ⟨_, m2, p, vs', rfl, .inl ⟨SqL.of m3, fun pt npt => ⟨by show 2 ≤ sizeLine; decide, fun pr npr => ?_⟩⟩⟩
    have s5 := same_new npt (.tup vs')
    have s6 := same_new npr (.tup [.str "row", .ref pt])
    exact q _ (alike_row hal m5) _ _ (m1.trans (s5.trans s6)) ⟨pr, pt, vs', rfl, upd_same, s6 _ _ upd_same, m4.tk (tk (s5.trans s6))⟩
end UR
namespace UR
open PySem PySem.Spec PyProof.Rows L2
theorem sc_plain_tree : FnScope ["n"] ["n"] (defScope (top 19)) := ⟨rfl, rfl, rfl, by decide +kernel, rfl, by decide +kernel, by decide +kernel⟩
set_option maxHeartbeats 8000000 in
theorem cal_plain_tree {P : Program} {w : World} {K : PySem.W.Frag} {mg : Str → Option Value} {base : Heap}  (B : Bl mg) (D : DefAt K mg 19 "plain_tree") (C_check_things : Cal P w K mg base (2) "check_things" ["n"] sp_check_things) (C_make_any : Cal P w K mg base (1) "make_any" ["parts"] sp_make_any) :
    Cal P w K mg base (3) "plain_tree" ["n"] sp_plain_tree := by
  have sc := sc_plain_tree
  refine cal_of D sc (fun kV doc pm an cdv ct us hl => match us, hl with | [_], _ => rfl) (fun vs H Q E h => ?_) (fun f cdv A outer s H vs Q E hr h => ?_)
  · obtain ⟨n, rfl, h1, h2, q⟩ := h
    rfl
  obtain ⟨n, rfl, h1, h2, q⟩ := h
  refine ⟨_, (pss_cons (ps_expr (pe_cal C_check_things (hr.mono (by omega)) (by rfl) (pa_cons (pv 0) pa_nil)))
    (pss_one (ps_ret (pe_cal C_make_any (hr.mono (by omega)) (by rfl) (pa_cons (pe_listRg rfl (by rfl) B.list (prg_1 (by rfl) B.range (pv 0))) pa_nil))))), ?_⟩
  refine ⟨_, rfl, n, rfl, h1, h2, _, rfl, n, rfl, ⟨by omega, by omega, by omega, by omega, by omega⟩, fun a ha => ?_⟩
  have s1 := same_new ha (.lst (rgV 0 n))
  have e : rgV 0 (n : Int) = (List.range n).map (fun i => V.int (0 + (i : Nat))) := by
    unfold rgV
    rw [show ((n : Int) - 0).toNat = n by omega]
  refine ⟨a, _, things n, rfl, upd_same, ?_, by rw [things, List.length_map, List.length_range]; omega, fun v H' e2 hv => q v H' (s1.trans e2) hv⟩
  rw [e]
  exact treesIn_things (fun i => by show V.int (0 + (i : Int)) = V.int (i : Int); rw [Int.zero_add]) _
end UR
namespace UR
open PySem PySem.Spec PyProof.Rows L2
theorem sc_share : FnScope ["tree", "chosen", "things", "count", "thing"] ["tree", "chosen"] (defScope (top 21)) := ⟨rfl, rfl, rfl, by decide +kernel, rfl, by decide +kernel, by decide +kernel⟩
set_option maxHeartbeats 8000000 in
theorem cal_share {P : Program} {w : World} {K : PySem.W.Frag} {mg : Str → Option Value} {base : Heap}  (B : Bl mg) (D : DefAt K mg 21 "share") (C_listed : Cal P w K mg base (24 + 2) "listed" ["tree"] (sp_listed 24)) :
    Cal P w K mg base (30) "share" ["tree", "chosen"] sp_share := by
  have sc := sc_share
  refine cal_of D sc (fun kV doc pm an cdv ct us hl => match us, hl with | [_, _], _ => rfl) (fun vs H Q E h => ?_) (fun f cdv A outer s H vs Q E hr h => ?_)
  · obtain ⟨v, c, T, S, rfl, hT, hok, ⟨a, rfl, ha⟩, q⟩ := h
    rfl
  obtain ⟨v, c, T, S, rfl, hT, hok, ⟨a, rfl, ha⟩, q⟩ := h
  refine ⟨_, (pss_cons (ps_set (i := 2) sc.nd rfl (Or.inl rfl) (pe_cal C_listed (hr.mono (by omega)) (by rfl) (pa_cons (pv 0) pa_nil)))
    (pss_cons (ps_set (i := 3) sc.nd rfl (Or.inl rfl) (pe_callB (call_lenK K) (by rfl) B.len PySem.boot_len (pa_cons (pe_lc (own := [("thing", 4)]) rfl sc.nd (pi_listK K (pv 2)) (blkOk_by (N := ["tree", "chosen", "things", "count", "thing"]) (sc := defScope (top 21)) (by decide +kernel)) (fun _ _ _ _ _ => (pg_name (i := 4) sc.nd rfl (Or.inl rfl))) (fun _ _ _ _ _ => (pts_one (pt_cmpR (op_in_seqK K) (pv 4) (pv 1) (by with_unfolding_all rfl)))) (fun _ _ _ _ _ => (pv 4))) pa_nil)))
    (pss_cons (ps_if (pt_cmpR op_eq (pv 3) pe_int (nomark _)) (pss_one (ps_ret pe_str)) pss_nil)
    (pss_cons (ps_if (pt_cmpR op_eq (pv 3) (pe_callB (call_lenK K) (by rfl) B.len PySem.boot_len (pa_cons (pv 2) pa_nil)) (nomark _)) (pss_one (ps_ret pe_str)) pss_nil)
    (pss_one (ps_ret pe_str)))))), ?_⟩
  refine ⟨_, rfl, v, T, rfl, hT, TOk.depth hok, hok.2, fun p H1 e1 hp0 hp => ?_⟩
  refine ⟨_, rfl, p, rfl, ⟨_, SqL.of hp⟩, fun D hD => ?_⟩
  refine lc_list (K := K) (a := p) (xs := T.listed.map nV) (LcInv H1 D fun i ys _ => ys = ((T.listed.take i).filter (fun x => decide (x ∈ S))).map nV) (lc_start hD rfl) (fun i H' _ g => SqL.of (g.2.1 _ _ hp)) (fun i x H' hi g => ?_) (fun H' g => ?_)
  · obtain ⟨g1, g2, ys, g3, g4, g5⟩ := g
    obtain ⟨t, ht, rfl⟩ := map_get hi
    have hi2 : i < 24 := by
      have := (List.getElem?_eq_some_iff.mp ht).1
      have := hok.2
      omega
    refine ⟨rfl, _, rfl, _, rfl, a, S.map nV, rfl, .inr (SqT.of (g2 _ _ (e1 _ _ ha))), rfl, flat_nV S, _, rfl, ite2 (fun c => ?_) (fun c => ?_)⟩
    · have c1 : inV (nV t) (S.map nV) = true := c
      rw [inV_nV] at c1
      refine ⟨_, rfl, lc_put (by omega) g1 g2 g3 g4 ?_⟩
      rw [filter_take ht, if_pos c1, List.map_append, ← g5]
      rfl
    · have c1 : ¬ inV (nV t) (S.map nV) = true := c
      rw [inV_nV] at c1
      refine lc_skip g1 g2 g3 g4 ?_
      rw [filter_take ht, if_neg c1, List.append_nil]
      exact g5
  · obtain ⟨g1, g2, ys, g3, g4, g5⟩ := g
    rw [List.length_map, List.take_length] at g5
    subst g5
    have e2 := e1.trans g2
    refine ⟨D, _, rfl, .inl (SqL.of g3), ?_⟩
    rw [List.length_map]
    have hr : rank S T = if (T.listed.filter (fun x => decide (x ∈ S))).length = 0 then 0 else if (T.listed.filter (fun x => decide (x ∈ S))).length = T.listed.length then 2 else 1 := rfl
    refine ⟨_, rfl, rfl, _, rfl, ite2 (fun c => ?_) (fun c => ?_)⟩
    · have c1 : V.int ((T.listed.filter (fun x => decide (x ∈ S))).length : Int) = V.int 0 := of_decide_eq_true c
      have c2 : (T.listed.filter (fun x => decide (x ∈ S))).length = 0 := by
        have := V.int.inj c1
        omega
      have := q H' e2
      rw [hr, if_pos c2] at this
      exact this
    · have c2 : ¬ (T.listed.filter (fun x => decide (x ∈ S))).length = 0 := fun z => c (decide_eq_true (by rw [z]; rfl))
      refine ⟨_, rfl, _, rfl, p, _, rfl, .inl (SqL.of (g2 _ _ hp)), rfl, _, rfl, ite2 (fun d => ?_) (fun d => ?_)⟩
      · have d1 : V.int ((T.listed.filter (fun x => decide (x ∈ S))).length : Int) = V.int ((T.listed.map nV).length : Int) := of_decide_eq_true d
        rw [List.length_map] at d1
        have d2 : (T.listed.filter (fun x => decide (x ∈ S))).length = T.listed.length := by
          have := V.int.inj d1
          omega
        have := q H' e2
        rw [hr, if_neg c2, if_pos d2] at this
        exact this
      · have d2 : ¬ (T.listed.filter (fun x => decide (x ∈ S))).length = T.listed.length := fun z => d (decide_eq_true (by rw [List.length_map, z]))
        have := q H' e2
        rw [hr, if_neg c2, if_neg d2] at this
        exact this
end UR
namespace UR
open PySem PySem.Spec PyProof.Rows L2
theorem sc_with_share : FnScope ["parts", "chosen", "wanted", "part"] ["parts", "chosen", "wanted"] (defScope (top 22)) := ⟨rfl, rfl, rfl, by decide +kernel, rfl, by decide +kernel, by decide +kernel⟩
set_option maxHeartbeats 8000000 in
theorem cal_with_share {P : Program} {w : World} {K : PySem.W.Frag} {mg : Str → Option Value} {base : Heap}  (B : Bl mg) (D : DefAt K mg 22 "with_share") (C_share : Cal P w K mg base (30) "share" ["tree", "chosen"] sp_share) :
    Cal P w K mg base (31) "with_share" ["parts", "chosen", "wanted"] sp_with_share := by
  have sc := sc_with_share
  refine cal_of D sc (fun kV doc pm an cdv ct us hl => match us, hl with | [_, _, _], _ => rfl) (fun vs H Q E h => ?_) (fun f cdv A outer s H vs Q E hr h => ?_)
  · obtain ⟨b, ws, ps, c, S, k, rfl, hb, hws, hok, hc, hk, q⟩ := h
    rfl
  obtain ⟨b, ws, ps, c, S, k, rfl, hb, hws, hok, hc, hk, q⟩ := h
  refine ⟨_, (pss_one (ps_ret (pe_lc (own := [("part", 3)]) rfl sc.nd (pi_tupK K (pv 0)) (blkOk_by (N := ["parts", "chosen", "wanted", "part"]) (sc := defScope (top 22)) (by decide +kernel)) (fun _ _ _ _ _ => (pg_name (i := 3) sc.nd rfl (Or.inl rfl))) (fun _ _ _ _ _ => (pts_one (pt_cmpR op_eq (pe_cal C_share (hr.mono (by omega)) (by rfl) (pa_cons (pv 3) (pa_cons (pv 1) pa_nil))) (pv 2) (nomark _)))) (fun _ _ _ _ _ => (pv 3))))), ?_⟩
  refine ⟨_, rfl, b, rfl, ⟨_, SqT.of hb⟩, fun D hD => ?_⟩
  refine lc_tup (K := K) (a := b) (xs := ws) (LcInv H D fun i ys H' => TreesIn H' ys (withShare S (ps.take i) k)) (lc_start hD (by simp [withShare, TreesIn])) (fun i H' _ g => SqT.of (g.2.1 _ _ hb)) (fun i x H' hi g => ?_) (fun H' g => ?_)
  · obtain ⟨g1, g2, ys, g3, g4, g5⟩ := g
    obtain ⟨t, ht, hx⟩ := hws.get hi
    have tm := List.mem_of_getElem? ht
    have hi2 : i < 24 := by
      have := (List.getElem?_eq_some_iff.mp ht).1
      have := hok.len
      omega
    have hx' := hx.tk (tk g2)
    refine ⟨rfl, _, rfl, _, rfl, x, c, t, S, rfl, hx', hok.part tm, hc.tk (tk g2), fun H2 e2 => ⟨_, rfl, rfl, _, rfl, ite2 (fun d => ?_) (fun d => ?_)⟩⟩
    · have d1 : rank S t = k := (shV_inj (rank_le _ _) hk).mp (of_decide_eq_true d)
      refine ⟨_, rfl, lc_put (by omega) g1 (g2.trans e2) (e2 _ _ g3) g4 ?_⟩
      have e3 : withShare S (ps.take (i + 1)) k = withShare S (ps.take i) k ++ [t] := by
        unfold withShare
        rw [filter_take ht, if_pos (decide_eq_true d1)]
      rw [e3]
      have k2 : Tk H' (upd H2 D (.lst (ys ++ [x]))) := (tk e2).trans (tk_lst (e2 _ _ g3) _)
      exact (g5.tk k2).snoc (hx'.tk k2)
    · have d1 : ¬ rank S t = k := fun z => d (decide_eq_true ((shV_inj (rank_le _ _) hk).mpr z))
      refine lc_skip g1 (g2.trans e2) (e2 _ _ g3) g4 ?_
      have e3 : withShare S (ps.take (i + 1)) k = withShare S (ps.take i) k := by
        unfold withShare
        rw [filter_take ht, if_neg (by simpa using d1), List.append_nil]
      rw [e3]
      exact g5.tk (tk e2)
  · obtain ⟨g1, g2, ys, g3, g4, g5⟩ := g
    rw [hws.length, List.take_length] at g5
    exact q D ys H' g2 hD g3 g5
end UR
namespace UR
open PySem PySem.Spec PyProof.Rows L2
theorem sc_split_any : FnScope ["parts", "chosen", "empty", "full", "mixed", "found", "inner"] ["parts", "chosen"] (defScope (top 23)) := ⟨rfl, rfl, rfl, by decide +kernel, rfl, by decide +kernel, by decide +kernel⟩
set_option maxHeartbeats 8000000 in
theorem cal_split_any {P : Program} {w : World} {K : PySem.W.Frag} {mg : Str → Option Value} {base : Heap} {k : Nat} (B : Bl mg) (D : DefAt K mg 23 "split_any") (C_make_any : Cal P w K mg base (1) "make_any" ["parts"] sp_make_any) (C_split : Cal P w K mg base (2 * k + 32) "split" ["tree", "chosen"] (sp_split k)) (C_with_share : Cal P w K mg base (31) "with_share" ["parts", "chosen", "wanted"] sp_with_share) :
    Cal P w K mg base (2 * k + 33) "split_any" ["parts", "chosen"] (sp_split_any k) := by
  have sc := sc_split_any
  refine cal_of D sc (fun kV doc pm an cdv ct us hl => match us, hl with | [_, _], _ => rfl) (fun vs H Q E h => ?_) (fun f cdv A outer s H vs Q E hr h => ?_)
  · obtain ⟨b, ws, ps, c, S, rfl, hb, hws, hok, hc, hd, q⟩ := h
    rfl
  obtain ⟨b, ws, ps, c, S, rfl, hb, hws, hok, hc, hd, q⟩ := h
  refine ⟨_, (pss_cons (ps_set (i := 2) sc.nd rfl (Or.inl rfl) (pe_cal C_with_share (hr.mono (by omega)) (by rfl) (pa_cons (pv 0) (pa_cons (pv 1) (pa_cons pe_str pa_nil)))))
    (pss_cons (ps_set (i := 3) sc.nd rfl (Or.inl rfl) (pe_cal C_with_share (hr.mono (by omega)) (by rfl) (pa_cons (pv 0) (pa_cons (pv 1) (pa_cons pe_str pa_nil)))))
    (pss_cons (ps_set (i := 4) sc.nd rfl (Or.inl rfl) (pe_cal C_with_share (hr.mono (by omega)) (by rfl) (pa_cons (pv 0) (pa_cons (pv 1) (pa_cons pe_str pa_nil)))))
    (pss_cons (ps_if (pt_cmpR op_gt (pe_callB (call_lenK K) (by rfl) B.len PySem.boot_len (pa_cons (pv 4) pa_nil)) pe_int (nomark _)) (pss_one (ps_ret pe_non)) pss_nil)
    (pss_cons (ps_set (i := 5) sc.nd rfl (Or.inl rfl) (pe_lst pa_nil))
    (Evl.pss_cut (ps_if (pt_cmpR (op_neDK K hr.units) (pv 2) (pe_lst pa_nil) (nomark _)) (pss_one (ps_expr (pe_bm PySem.F.plainAttrs_list PySem.F.slot_list_append PySem.F.type_list_append mt_append (pv 5) (pa_cons (pe_cal C_make_any (hr.mono (by omega)) (by rfl) (pa_cons (pv 2) pa_nil)) pa_nil)))) pss_nil)
    (Evl.pss_cut (ps_if (pt_cmpR (op_neDK K hr.units) (pv 4) (pe_lst pa_nil) (nomark _)) (pss_cons (ps_set (i := 6) sc.nd rfl (Or.inl rfl) (pe_cal C_split (hr.mono (by omega)) (by rfl) (pa_cons (pe_ix (ix_listK K) (pv 4) pe_int (fun _ _ => rfl)) (pa_cons (pv 1) pa_nil))))
      (pss_cons (ps_if (pt_cmpR op_isN (pv 6) pe_non (nomark _)) (pss_one (ps_ret pe_non)) pss_nil)
      (pss_one (ps_expr (pe_bm PySem.F.plainAttrs_list PySem.F.slot_list_extend PySem.F.type_list_extend mt_extend (pv 5) (pa_cons (pv 6) pa_nil)))))) pss_nil)
    (Evl.pss_cut (ps_if (pt_cmpR (op_neDK K hr.units) (pv 3) (pe_lst pa_nil) (nomark _)) (pss_one (ps_expr (pe_bm PySem.F.plainAttrs_list PySem.F.slot_list_append PySem.F.type_list_append mt_append (pv 5) (pa_cons (pe_cal C_make_any (hr.mono (by omega)) (by rfl) (pa_cons (pv 3) pa_nil)) pa_nil)))) pss_nil)
    (pss_one (ps_ret (pv 5))))))))))), ?_⟩
  refine ⟨_, rfl, _, rfl, b, ws, ps, c, S, 0, rfl, hb, hws, hok, hc, by decide, fun p1 es H1 s1 n1 h1 he => ?_⟩
  refine ⟨_, rfl, _, rfl, b, ws, ps, c, S, 2, rfl, s1 _ _ hb, hws.tk (tk s1), hok, hc.tk (tk s1), by decide, fun p2 fs H2 s2 n2 h2 hf => ?_⟩
  have s12 := s1.trans s2
  refine ⟨_, rfl, _, rfl, b, ws, ps, c, S, 1, rfl, s12 _ _ hb, hws.tk (tk s12), hok, hc.tk (tk s12), by decide, fun p3 ms H3 s3 n3 h3 hm => ?_⟩
  have s13 := s12.trans s3
  have h1' := s3 _ _ (s2 _ _ h1)
  have h2' := s3 _ _ h2
  have he' := he.tk (tk (s2.trans s3))
  have hf' := hf.tk (tk s3)
  have lm := hm.length
  refine ⟨_, rfl, p3, ms, rfl, .inl (SqL.of h3), _, _, rfl, rfl, _, rfl, ite2 (fun cm => ?_) (fun cm => ?_)⟩
  · have c2 : 1 < (ms.length : Int) := of_decide_eq_true cm
    refine q.1 ?_ H3 s13
    unfold splitAny
    match e : withShare S ps 1 with
    | [] => rw [e] at lm; simp only [List.length_nil] at lm; omega
    | [_] => rw [e] at lm; simp only [List.length_cons, List.length_nil] at lm; omega
    | _ :: _ :: _ => rfl
  have lm1 : (withShare S ps 1).length ≤ 1 := by
    have : ¬ 1 < (ms.length : Int) := fun z => cm (decide_eq_true z)
    omega
  refine ⟨by show 0 ≤ sizeLine; decide, fun pf nf => ?_⟩
  have s4 := same_new nf (.lst [])
  have k0 := hok.len
  have lw : ∀ k, (withShare S ps k).length ≤ 24 := fun k => (share_ok hok).len
  -- empty
  refine ⟨fun σ H' => σ = [some (.ref b), some c, some (.ref p1), some (.ref p2), some (.ref p3), some (.ref pf), none] ∧ Same H3 H' ∧ ∃ gs, H' pf = some (.lst gs) ∧ TreesIn H' gs (bundle (withShare S ps 0)), ?_, fun σ H' m => ?_⟩
  · have h1'' := s4 _ _ h1'
    have he'' := he'.tk (tk s4)
    refine ⟨_, rfl, by show 0 ≤ sizeLine; decide, fun l nl => ?_⟩
    have s5 := same_new nl (.lst [])
    refine ne_nil_trees (s5 _ _ h1'') upd_same (he''.tk (tk s5)) (share_ok hok).depthL ⟨_, rfl, ite2 (fun d => ?_) (fun d => ?_)⟩
    · have nz : withShare S ps 0 ≠ [] := by simpa using d
      refine ⟨_, rfl, .inl ⟨rfl, _, SqL.of (s5 _ _ upd_same)⟩, _, rfl, p1, es, withShare S ps 0, rfl, s5 _ _ h1'', he''.tk (tk s5), by have := lw 0; omega, fun v H5 s6 hv => ?_⟩
      have g1 := s6 _ _ (s5 _ _ (upd_same (H := H3) (a := pf) (o := .lst [])))
      refine ⟨pf, [], v, rfl, rfl, g1, by decide, rfl, same_mut ((s4.trans s5).trans s6) nf, [v], upd_same, ?_⟩
      have e : bundle (withShare S ps 0) = [makeAny (withShare S ps 0)] := by unfold bundle; rw [if_neg nz]
      rw [e]
      exact .one (hv.tk (tk_lst g1 _))
    · have nz : withShare S ps 0 = [] := by simpa using d
      refine ⟨rfl, s4.trans s5, [], s5 _ _ upd_same, ?_⟩
      rw [nz]
      exact .nil
  obtain ⟨rfl, m1, gs, m2, m3⟩ := m
  have h3m := m1 _ _ h3
  have hmm := hm.tk (tk m1)
  have lb0 : ∀ k, (bundle (withShare S ps k)).length ≤ 1 := fun k => by unfold bundle; split <;> simp
  have lg := m3.length
  -- mixed
  refine ⟨fun σ H' => σ[3]? = some (some (.ref p2)) ∧ σ[5]? = some (some (.ref pf)) ∧ Same H3 H' ∧ ∃ gs, H' pf = some (.lst gs) ∧ gs.length ≤ 100 ∧ ∃ L, TreesIn H' gs L ∧ splitAny (split S k) S ps = some (L ++ bundle (withShare S ps 2)), ?_, fun σ H2' m' => ?_⟩
  · refine ⟨_, rfl, by show 0 ≤ sizeLine; decide, fun l nl => ?_⟩
    have s5 := same_new nl (.lst [])
    refine ne_nil_trees (s5 _ _ h3m) upd_same (hmm.tk (tk s5)) (share_ok hok).depthL ⟨_, rfl, ite2 (fun d => ?_) (fun d => ?_)⟩
    · match em : withShare S ps 1, lm1 with
      | [], _ => rw [em] at d; cases d
      | [m0], _ =>
        rw [em] at hmm lm
        obtain ⟨v0, r0, e0, hv0, hr0⟩ := id hmm
        have mp : m0 ∈ ps ∧ rank S m0 = 1 := mem_share.mp (em ▸ List.mem_singleton.mpr rfl)
        subst e0
        refine ⟨_, rfl, _, _, _, _, rfl, rfl, SqL.of (s5 _ _ h3m), at0, _, rfl, v0, c, m0, S, rfl, hv0.tk (tk s5), hok.part mp.1, hc.tk (tk ((s13.trans m1).trans s5)), mp.2, part_depth hd mp.1, fun en H5 s6 => ?_, fun L el pl wl H5 s6 nl2 hl2 hL => ?_⟩
        · refine ⟨_, rfl, rfl, _, rfl, iteT ?_⟩
          refine q.1 ?_ H5 (((s13.trans m1).trans s5).trans s6)
          unfold splitAny
          rw [em]
          show (match split S k m0 with | none => none | some inner => some (bundle (withShare S ps 0) ++ inner ++ bundle (withShare S ps 2))) = none
          rw [en]
        · refine ⟨_, rfl, rfl, _, rfl, iteF ?_⟩
          have g2 := s6 _ _ (s5 _ _ m2)
          have lL : L.length ≤ 24 := by
            obtain ⟨_, a2, a3⟩ := split_struct (hok.part mp.1).1 mp.2 el
            have := listedL_len L a3
            have := a2.length_eq
            have := (hok.part mp.1).2
            omega
          have lwl := hL.length
          refine ⟨_, rfl, .inl ⟨rfl, _, SqL.of g2⟩, _, rfl, pf, pl, gs, wl, rfl, rfl, g2, hl2, sz (by have := lb0 0; omega), ?_⟩
          refine ⟨rfl, rfl, same_mut ((m1.trans s5).trans s6) nf, gs ++ wl, upd_same, by rw [List.length_append]; have := lb0 0; omega, bundle (withShare S ps 0) ++ L, ?_, ?_⟩
          · have k2 := tk_lst g2 (.lst (gs ++ wl))
            exact (m3.tk ((tk (s5.trans s6)).trans k2)).append (hL.tk k2)
          · unfold splitAny
            rw [em]
            show (match split S k m0 with | none => none | some inner => some (bundle (withShare S ps 0) ++ inner ++ bundle (withShare S ps 2))) = _
            rw [el]
    · have nz : withShare S ps 1 = [] := by simpa using d
      refine ⟨rfl, rfl, m1.trans s5, gs, s5 _ _ m2, by have := lb0 0; omega, bundle (withShare S ps 0), m3.tk (tk s5), ?_⟩
      unfold splitAny
      rw [nz]
  obtain ⟨i3, i5, n1', gs2, n2', n3', L, n4', n5'⟩ := m'
  -- full
  refine ⟨fun σ H' => σ[5]? = some (some (.ref pf)) ∧ Same H3 H' ∧ ∃ gs, H' pf = some (.lst gs) ∧ TreesIn H' gs (L ++ bundle (withShare S ps 2)), ?_, fun σ H' m => ?_⟩
  · refine ⟨_, i3, by show 0 ≤ sizeLine; decide, fun l nl => ?_⟩
    have s5 := same_new nl (.lst [])
    have h2m := n1' _ _ h2'
    have hfm := hf'.tk (tk n1')
    refine ne_nil_trees (s5 _ _ h2m) upd_same (hfm.tk (tk s5)) (share_ok hok).depthL ⟨_, rfl, ite2 (fun d => ?_) (fun d => ?_)⟩
    · have nz : withShare S ps 2 ≠ [] := by simpa using d
      refine ⟨_, i5, .inl ⟨rfl, _, SqL.of (s5 _ _ n2')⟩, _, i3, p2, fs, withShare S ps 2, rfl, s5 _ _ h2m, hfm.tk (tk s5), by have := lw 2; omega, fun v H5 s6 hv => ?_⟩
      have g1 := s6 _ _ (s5 _ _ n2')
      refine ⟨pf, gs2, v, rfl, rfl, g1, szl (by omega), i5, same_mut ((n1'.trans s5).trans s6) nf, gs2 ++ [v], upd_same, ?_⟩
      have e : bundle (withShare S ps 2) = [makeAny (withShare S ps 2)] := by unfold bundle; rw [if_neg nz]
      rw [e]
      have k2 := tk_lst g1 (.lst (gs2 ++ [v]))
      exact (n4'.tk ((tk (s5.trans s6)).trans k2)).snoc (hv.tk k2)
    · have nz : withShare S ps 2 = [] := by simpa using d
      refine ⟨i5, n1'.trans s5, gs2, s5 _ _ n2', ?_⟩
      rw [nz]
      show TreesIn _ gs2 (L ++ [])
      rw [List.append_nil]
      exact n4'.tk (tk s5)
  obtain ⟨j5, o1, gs3, o2, o3⟩ := m
  exact ⟨_, j5, q.2 _ n5' pf gs3 H' (s13.trans o1) (s13.free nf) o2 o3⟩
end UR
namespace UR
open PySem PySem.Spec PyProof.Rows L2
theorem sc_ascends : FnScope ["shares", "ranks", "told"] ["shares"] (defScope (top 24)) := ⟨rfl, rfl, rfl, by decide +kernel, rfl, by decide +kernel, by decide +kernel⟩
set_option maxHeartbeats 8000000 in
theorem cal_ascends {P : Program} {w : World} {K : PySem.W.Frag} {mg : Str → Option Value} {base : Heap}  (B : Bl mg) (D : DefAt K mg 24 "ascends")  :
    Cal P w K mg base (1) "ascends" ["shares"] sp_ascends := by
  have sc := sc_ascends
  refine cal_of D sc (fun kV doc pm an cdv ct us hl => match us, hl with | [_], _ => rfl) (fun vs H Q E h => ?_) (fun f cdv A outer s H vs Q E hr h => ?_)
  · obtain ⟨a, rs, rfl, ha, h24, h2, q⟩ := h
    rfl
  obtain ⟨a, rs, rfl, ha, h24, h2, q⟩ := h
  refine ⟨_, (pss_cons (ps_setLc (i := 1) (own := [("told", 2)]) rfl sc.nd rfl rfl (sw_true rfl rfl rfl (by decide +kernel)) (pi_listK K (pv 0)) (blkOk_by (N := ["shares", "ranks", "told"]) (sc := defScope (top 24)) (by decide +kernel)) (fun _ _ _ _ _ => (pg_name (i := 2) sc.nd rfl (Or.inl rfl))) (fun _ _ _ _ _ => pts_nil) (fun _ _ _ _ _ => (pe_tupM PySem.F.plainAttrs_tuple PySem.F.slot_tuple_index PySem.F.type_tuple_index (mt_tup_indexK K) (pa_cons pe_str (pa_cons pe_str (pa_cons pe_str pa_nil))) (pa_cons (pv 2) pa_nil))))
    (pss_one (ps_ret (pe_and (pe_cmpR (op_eqDK K hr.units) (pv 1) (pe_callB (cr_sortedK K) (by rfl) B.sorted (by decide +kernel) (pa_cons (pv 1) pa_nil)) (nomark _)) (pe_one (pe_cmpR op_lt (pe_bm PySem.F.plainAttrs_list PySem.F.slot_list_count PySem.F.type_list_count (mt_lcountK K) (pv 1) (pa_cons pe_int pa_nil)) pe_int (nomark _))))))), ?_⟩
  refine ⟨_, rfl, a, rfl, ⟨_, SqL.of ha⟩, fun D hD => ?_⟩
  refine lc_list (K := K) (a := a) (xs := rs.map shV) (LcInv H D fun i ys _ => ys = (rs.take i).map nV) (lc_start hD rfl) (fun i H' _ g => SqL.of (g.2.1 _ _ ha)) (fun i x H' hi g => ?_) (fun H' g => ?_)
  · obtain ⟨g1, g2, ys, g3, g4, g5⟩ := g
    obtain ⟨r, hr, rfl⟩ := map_get hi
    have hi2 : i < 24 := by
      have := (List.getElem?_eq_some_iff.mp hr).1
      omega
    have hr2 := h2 r (List.mem_of_getElem? hr)
    refine ⟨rfl, by show 3 ≤ sizeLine; decide, fun p hp => ⟨_, rfl, p, ["none", "some", "all"], shareW r, r, rfl, rfl, SqT.of upd_same, ?_, ?_, ?_⟩⟩
    · match r, hr2 with
      | 0, _ => rfl
      | 1, _ => rfl
      | 2, _ => rfl
    · intro m hm
      match r, hr2, m, hm with
      | 1, _, 0, _ => decide
      | 2, _, 0, _ => decide
      | 2, _, 1, _ => decide
    · have e1 := same_new hp (.tup [V.str "none", V.str "some", V.str "all"])
      refine lc_put (by omega) g1 (g2.trans e1) (e1 _ _ g3) g4 ?_
      rw [List.take_add_one, hr, List.map_append, ← g5]
      rfl
  · obtain ⟨g1, g2, ys, g3, g4, g5⟩ := g
    rw [List.length_map, List.take_length] at g5
    subst g5
    have g6 : H' D = some (.lst ((rs.map Int.ofNat).map V.int)) := by rw [g3, map_nV]
    have fin : ∀ b : Bool, b = decide (ascends rs) → ∀ H2, Same H' H2 → Q (.bl b) H2 := fun b e H2 e2 => by
      rw [e]
      exact q H2 (g2.trans e2)
    refine ⟨_, rfl, _, rfl, D, rs.map Int.ofNat, rfl, SqL.of g6, by rw [List.length_map]; omega, fun ns p hperm hsort np => ?_⟩
    have s1 := same_new np (.lst (ns.map V.int))
    obtain ⟨a1, a2, a3⟩ := dp_intsI (K := K) (H := upd H' p (.lst (ns.map V.int))) (rs.map Int.ofNat)
    obtain ⟨b1, b2, b3⟩ := dp_intsI (K := K) (H := upd H' p (.lst (ns.map V.int))) ns
    refine ⟨_, _, .lst (SqL.of (s1 _ _ g6)) a1, .lst (SqL.of upd_same) b1, shaped_list a2 (by omega), shaped_list b2 (by omega), _, rfl, ?_⟩
    have ev : PyData.eqv (.list ((rs.map Int.ofNat).map PyData.int)) (.list (ns.map PyData.int)) = decide (rs.Pairwise (· ≤ ·)) := by
      rw [PyData.eqv, eqv_ints]
      refine decide_eq_decide.mpr ⟨fun e => ?_, fun e => ?_⟩
      · rw [← e, List.pairwise_map] at hsort
        exact hsort.imp fun h => Int.ofNat_le.mp h
      · refine (List.Perm.eq_of_pairwise (fun x y _ _ h1 h2 => Int.le_antisymm h1 h2) ?_ hsort hperm.symm)
        rw [List.pairwise_map]
        exact e.imp fun h => Int.ofNat_le.mpr h
    rw [ev]
    refine ite2 (fun c1 => ?_) (fun c1 => ?_)
    · have c2 : rs.Pairwise (· ≤ ·) := of_decide_eq_true c1
      refine ⟨_, rfl, .inl ⟨rfl, _, SqL.of (s1 _ _ g6)⟩, D, rs.map Int.ofNat, 1, rfl, rfl, SqL.of (s1 _ _ g6), _, _, rfl, rfl, ?_⟩
      refine fin _ ?_ _ s1
      refine decide_eq_decide.mpr ?_
      have ec : (rs.map Int.ofNat).count 1 = rs.count 1 := count_ofNat rs
      rw [ec]
      exact ⟨fun h => ⟨c2, by omega⟩, fun h => by have := h.2; omega⟩
    · refine fin _ ?_ _ s1
      refine (decide_eq_false fun h => c1 (decide_eq_true h.1)).symm
end UR
namespace UR
open PySem PySem.Spec PyProof.Rows L2
theorem sc_split_row : FnScope ["parts", "chosen", "told", "found", "part", "inner"] ["parts", "chosen"] (defScope (top 25)) := ⟨rfl, rfl, rfl, by decide +kernel, rfl, by decide +kernel, by decide +kernel⟩
set_option maxHeartbeats 8000000 in
theorem cal_split_row {P : Program} {w : World} {K : PySem.W.Frag} {mg : Str → Option Value} {base : Heap} {k : Nat} (B : Bl mg) (D : DefAt K mg 25 "split_row") (C_ascends : Cal P w K mg base (1) "ascends" ["shares"] sp_ascends) (C_share : Cal P w K mg base (30) "share" ["tree", "chosen"] sp_share) (C_split : Cal P w K mg base (2 * k + 32) "split" ["tree", "chosen"] (sp_split k)) :
    Cal P w K mg base (2 * k + 33) "split_row" ["parts", "chosen"] (sp_split_row k) := by
  have sc := sc_split_row
  refine cal_of D sc (fun kV doc pm an cdv ct us hl => match us, hl with | [_, _], _ => rfl) (fun vs H Q E h => ?_) (fun f cdv A outer s H vs Q E hr h => ?_)
  · obtain ⟨b, ws, ps, c, S, rfl, hb, hws, hok, hc, hd, q⟩ := h
    rfl
  obtain ⟨b, ws, ps, c, S, rfl, hb, hws, hok, hc, hd, q⟩ := h
  refine ⟨_, (pss_cons (ps_set (i := 2) sc.nd rfl (Or.inl rfl) (pe_callTy (call_listK K) (by rfl) B.list (by decide +kernel) (pa_cons (pv 0) pa_nil)))
    (Evl.pss_cut (ps_if (pt_not (pt_val (pe_cal C_ascends (hr.mono (by omega)) (by rfl) (pa_cons (pe_lc (own := [("part", 4)]) rfl sc.nd (pi_listK K (pv 2)) (blkOk_by (N := ["parts", "chosen", "told", "found", "part", "inner"]) (sc := defScope (top 25)) (by decide +kernel)) (fun _ _ _ _ _ => (pg_name (i := 4) sc.nd rfl (Or.inl rfl))) (fun _ _ _ _ _ => pts_nil) (fun _ _ _ _ _ => (pe_cal C_share (hr.mono (by omega)) (by rfl) (pa_cons (pv 4) (pa_cons (pv 1) pa_nil))))) pa_nil)))) (pss_one (ps_expr (pe_bm0 PySem.F.plainAttrs_list PySem.F.slot_list_reverse PySem.F.type_list_reverse mt_reverse (pv 2)))) pss_nil)
    (pss_cons (ps_if (pt_not (pt_val (pe_cal C_ascends (hr.mono (by omega)) (by rfl) (pa_cons (pe_lc (own := [("part", 4)]) rfl sc.nd (pi_listK K (pv 2)) (blkOk_by (N := ["parts", "chosen", "told", "found", "part", "inner"]) (sc := defScope (top 25)) (by decide +kernel)) (fun _ _ _ _ _ => (pg_name (i := 4) sc.nd rfl (Or.inl rfl))) (fun _ _ _ _ _ => pts_nil) (fun _ _ _ _ _ => (pe_cal C_share (hr.mono (by omega)) (by rfl) (pa_cons (pv 4) (pa_cons (pv 1) pa_nil))))) pa_nil)))) (pss_one (ps_ret pe_non)) pss_nil)
    (pss_cons (ps_set (i := 3) sc.nd rfl (Or.inl rfl) (pe_lst pa_nil))
    (pss_cons (ps_for PassesOwn.never rfl (pi_listK K (pv 2)) (pg_name (i := 4) sc.nd rfl (Or.inl rfl)) (pss_one (ps_if (pt_cmpR op_eq (pe_cal C_share (hr.mono (by omega)) (by rfl) (pa_cons (pv 4) (pa_cons (pv 1) pa_nil))) pe_str (nomark _)) (pss_cons (ps_set (i := 5) sc.nd rfl (Or.inl rfl) (pe_cal C_split (hr.mono (by omega)) (by rfl) (pa_cons (pv 4) (pa_cons (pv 1) pa_nil))))
        (pss_cons (ps_if (pt_cmpR op_isN (pv 5) pe_non (nomark _)) (pss_one (ps_ret pe_non)) pss_nil)
        (pss_one (ps_expr (pe_bm PySem.F.plainAttrs_list PySem.F.slot_list_extend PySem.F.type_list_extend mt_extend (pv 3) (pa_cons (pv 5) pa_nil)))))) (pss_one (ps_expr (pe_bm PySem.F.plainAttrs_list PySem.F.slot_list_append PySem.F.type_list_append mt_append (pv 3) (pa_cons (pv 4) pa_nil)))))))
    (pss_one (ps_ret (pv 3)))))))), ?_⟩
  have k0 := hok.len
  have lw := hws.length
  refine ⟨_, rfl, b, ws, rfl, .inr (SqT.of hb), fun tl ntl => ?_⟩
  have s0 := same_new ntl (.lst ws)
  -- told: as it stands, or reversed
  have asc : ∀ ts : List Tree, ts.Perm ps → ∀ r ∈ ts.map (rank S), r ≤ 2 := fun ts _ r hr => by
    obtain ⟨t, _, rfl⟩ := List.mem_map.mp hr
    exact rank_le S t
  have emap : ∀ ts : List Tree, (ts.map fun t => shV (rank S t)) = (ts.map (rank S)).map shV := fun ts => by rw [List.map_map]; rfl
  refine ⟨fun σ H' => σ = [some (.ref b), some c, some (.ref tl), none, none, none] ∧ Same H H' ∧ ∃ us, H' tl = some (.lst us) ∧ TreesIn H' us (toldRow S ps), ?_, fun σ H1 m => ?_⟩
  · refine ⟨_, rfl, tl, rfl, ⟨_, SqL.of upd_same⟩, fun p n1 => ?_⟩
    refine lc_list (K := K) (a := tl) (xs := ws) (LcInv (upd H tl (.lst ws)) p fun i ys _ => ys = (ps.take i).map fun t => shV (rank S t)) (lc_start n1 rfl) (fun i H' _ g => SqL.of (g.2.1 _ _ upd_same))
      (fun i x H' hi g => turn_share (σ := [some (.ref b), some c, some (.ref tl), none, none, none]) (vs := [4]) (j := 4) (i1 := 1) (hws.tk (tk s0)) hok (hc.tk (tk s0)) (fun _ => rfl) (fun _ => rfl) (fun _ => rfl) hi g) (fun H1 g => ?_)
    obtain ⟨_, s1, ys, h1, _, g5⟩ := g
    rw [lw, List.take_length] at g5
    subst g5
    refine ⟨p, ps.map (rank S), rfl, by rw [h1, emap], by rw [List.length_map]; exact k0, asc ps (.refl _), fun H2 s2 => ⟨_, rfl, ?_⟩⟩
    have s02 := (s0.trans s1).trans s2
    have h2 := s2 _ _ (s1 _ _ (upd_same (H := H) (a := tl) (o := .lst ws)))
    by_cases d : ascends (ps.map (rank S))
    · rw [decide_eq_true d]
      refine iteF ⟨rfl, s02, ws, h2, ?_⟩
      unfold toldRow
      rw [if_pos d]
      exact hws.tk (tk s02)
    · rw [decide_eq_false d]
      refine iteT ⟨_, rfl, .inl ⟨rfl, _, SqL.of h2⟩, tl, ws, rfl, rfl, h2, rfl, same_mut s02 ntl, ws.reverse, upd_same, ?_⟩
      unfold toldRow
      rw [if_neg d]
      exact (hws.tk ((tk s02).trans (tk_lst h2 _))).reverse
  obtain ⟨rfl, s1, us, hu, hus⟩ := m
  have tp := toldRow_perm S ps
  have hok2 : PsOk (toldRow S ps) := psOk_perm hok tp
  have k2 := hok2.len
  have lus := hus.length
  refine ⟨_, rfl, tl, rfl, ⟨_, SqL.of hu⟩, fun p n2 => ?_⟩
  refine lc_list (K := K) (a := tl) (xs := us) (LcInv H1 p fun i ys _ => ys = ((toldRow S ps).take i).map fun t => shV (rank S t)) (lc_start n2 rfl) (fun i H' _ g => SqL.of (g.2.1 _ _ hu))
    (fun i x H' hi g => turn_share (σ := [some (.ref b), some c, some (.ref tl), none, none, none]) (vs := [4]) (j := 4) (i1 := 1) hus hok2 (hc.tk (tk s1)) (fun _ => rfl) (fun _ => rfl) (fun _ => rfl) hi g) (fun H2 g => ?_)
  obtain ⟨_, s2, ys, h2, _, g5⟩ := g
  rw [lus, List.take_length] at g5
  subst g5
  refine ⟨p, (toldRow S ps).map (rank S), rfl, by rw [h2, emap], by rw [List.length_map]; exact k2, asc _ tp, fun H3 s3 => ⟨_, rfl, ?_⟩⟩
  by_cases d : ¬ ascends ((toldRow S ps).map (rank S))
  · rw [decide_eq_false d]
    refine iteT (q.1 ?_ H3 ((s1.trans s2).trans s3))
    unfold splitRow
    rw [if_neg d]
  have d := Classical.not_not.mp d
  rw [decide_eq_true d]
  have er : splitRow (split S k) S ps = splice (split S k) S (toldRow S ps) := by unfold splitRow; rw [if_pos d]
  rw [er] at q
  have s23 := s2.trans s3
  have hu3 := s23 _ _ hu
  have hus3 := hus.tk (tk s23)
  have s03 := s1.trans s23
  refine iteF ⟨by show 0 ≤ sizeLine; decide, fun pf nf => ?_⟩
  have s4 := same_new nf (.lst [])
  have lu := hus.length
  refine ⟨_, rfl, tl, rfl, ⟨_, SqL.of (s4 _ _ hu3)⟩, ?_⟩
  refine for_list (xs := us) (fun i σ H' => σ[0]? = some (some (.ref b)) ∧ σ[1]? = some (some c) ∧ σ[3]? = some (some (.ref pf)) ∧ σ.length = 6 ∧ Same H3 H' ∧ ∃ gs L, H' pf = some (.lst gs) ∧ gs.length ≤ 24 * i ∧ TreesIn H' gs L ∧ splice (split S k) S ((toldRow S ps).take i) = some L)
    ⟨rfl, rfl, rfl, rfl, s4, [], [], upd_same, Nat.le_refl _, .nil, rfl⟩ (fun i σ H' _ g => SqL.of (g.2.2.2.2.1 _ _ hu3)) (fun i x σ H' hi g => ?_) (fun σ H' g => ?_)
  · obtain ⟨i0, i1, i3, i6, g1, gs, L, g2, g3, g4, g5⟩ := g
    obtain ⟨t, ht, hx⟩ := hus3.get hi
    have tm := List.mem_of_getElem? ht
    have i24 : i < 24 := by
      have := (List.getElem?_eq_some_iff.mp ht).1
      omega
    have tps := tp.mem_iff.mp tm
    have hx' := hx.tk (tk g1)
    have s5 := s03.trans g1
    refine ⟨_, setS (by omega), _, getS i1 (by decide), x, c, t, S, rfl, hx', hok2.part tm, hc.tk (tk s5), fun H4 s6 => ⟨rfl, _, rfl, ite2 (fun e => ?_) (fun e => ?_)⟩⟩
    · have r1 : rank S t = 1 := (shV_inj (rank_le S t) (by decide : 1 ≤ 2)).mp (of_decide_eq_true e)
      have pe : piece (split S k) S t = split S k t := by unfold piece; rw [if_pos r1]
      refine ⟨_, setS (by omega), _, getS i1 (by decide), x, c, t, S, rfl, hx'.tk (tk s6), hok2.part tm, hc.tk (tk (s5.trans s6)), r1, part_depth hd tps, fun en H5 s7 => ?_, fun l el pl wl H5 s7 n7 hl hwl => ?_⟩
      · refine ⟨_, setS (by simp [i6]), rfl, _, rfl, iteT (q.1 (splice_none ht (by rw [pe]; exact en)) H5 ((s5.trans s6).trans s7))⟩
      · have g7 := s7 _ _ (s6 _ _ g2)
        have ll : l.length ≤ 24 := by
          obtain ⟨_, a2, a3⟩ := split_struct (hok2.part tm).1 r1 el
          have := listedL_len l a3
          have := a2.length_eq
          have := (hok2.part tm).2
          omega
        have lwl := hwl.length
        refine ⟨_, setS (by simp [i6]), rfl, _, rfl, iteF ⟨_, getS (getS i3 (by decide)) (by decide), .inl ⟨rfl, _, SqL.of g7⟩, _, setS (by simp [i6]), pf, pl, gs, wl, rfl, rfl, g7, hl, sz (by omega), ?_⟩⟩
        have k3 := tk_lst g7 (.lst (gs ++ wl))
        exact ⟨getS (getS i0 (by decide)) (by decide), getS (getS i1 (by decide)) (by decide), getS (getS i3 (by decide)) (by decide), by simp [i6], same_mut ((g1.trans s6).trans s7) nf, gs ++ wl, L ++ l, upd_same, by rw [List.length_append]; omega,
          (g4.tk ((tk (s6.trans s7)).trans k3)).append (hwl.tk k3), splice_take ht g5 (by rw [pe]; exact el)⟩
    · have r1 : ¬ rank S t = 1 := fun z => e (decide_eq_true ((shV_inj (rank_le S t) (by decide : 1 ≤ 2)).mpr z))
      have pe : piece (split S k) S t = some [t] := by unfold piece; rw [if_neg r1]
      have g7 := s6 _ _ g2
      refine ⟨_, getS i3 (by decide), .inl ⟨rfl, _, SqL.of g7⟩, _, setS (by omega), pf, gs, x, rfl, rfl, g7, szl (by omega), ?_⟩
      have k3 := tk_lst g7 (.lst (gs ++ [x]))
      exact ⟨getS i0 (by decide), getS i1 (by decide), getS i3 (by decide), by simp [i6], same_mut (g1.trans s6) nf, gs ++ [x], L ++ [t], upd_same, by rw [List.length_append, List.length_singleton]; omega,
        (g4.tk ((tk s6).trans k3)).snoc (hx'.tk ((tk s6).trans k3)), splice_take ht g5 pe⟩
  · obtain ⟨i0, i1, i3, i6, g1, gs, L, g2, g3, g4, g5⟩ := g
    rw [lu, List.take_length] at g5
    exact ⟨_, i3, q.2 L g5 pf gs H' (s03.trans g1) (s03.free nf) g2 g4⟩
end UR
namespace UR
open PySem PySem.Spec PyProof.Rows L2
theorem sc_split : FnScope ["tree", "chosen"] ["tree", "chosen"] (defScope (top 26)) := ⟨rfl, rfl, rfl, by decide +kernel, rfl, by decide +kernel, by decide +kernel⟩
set_option maxHeartbeats 8000000 in
theorem cal_split {P : Program} {w : World} {K : PySem.W.Frag} {mg : Str → Option Value} {base : Heap} {k : Nat} (B : Bl mg) (D : DefAt K mg 26 "split") (C_split_any : Cal P w K mg base (2 * k + 33) "split_any" ["parts", "chosen"] (sp_split_any k)) (C_split_row : Cal P w K mg base (2 * k + 33) "split_row" ["parts", "chosen"] (sp_split_row k)) :
    Cal P w K mg base (2 * k + 34) "split" ["tree", "chosen"] (sp_split (k + 1)) := by
  have sc := sc_split
  refine cal_of D sc (fun kV doc pm an cdv ct us hl => match us, hl with | [_, _], _ => rfl) (fun vs H Q E h => ?_) (fun f cdv A outer s H vs Q E hr h => ?_)
  · obtain ⟨v, c, T, S, rfl, hT, hok, hc, hk, hd, q⟩ := h
    rfl
  obtain ⟨v, c, T, S, rfl, hT, hok, hc, hk, hd, q⟩ := h
  refine ⟨_, (pss_cons (ps_if (pt_cmpR op_eq (pe_ix (ix_tupK K) (pv 0) pe_int (fun _ _ => rfl)) pe_str (nomark _)) (pss_one (ps_ret (pe_cal C_split_any (hr.mono (by omega)) (by rfl) (pa_cons (pe_ix (ix_tupK K) (pv 0) pe_int (fun _ _ => rfl)) (pa_cons (pv 1) pa_nil))))) pss_nil)
    (pss_one (ps_ret (pe_cal C_split_row (hr.mono (by omega)) (by rfl) (pa_cons (pe_ix (ix_tupK K) (pv 0) pe_int (fun _ _ => rfl)) (pa_cons (pv 1) pa_nil)))))), ?_⟩
  have ht : isThing T = false := by
    cases T with
    | thing t =>
      exfalso
      obtain ⟨x, hx, hxS⟩ := rank_ne (S := S) (T := .thing t) (by omega)
      obtain ⟨y, hy, hyS⟩ := rank_one_out (by simp [Tree.listed]) hk
      simp only [Tree.listed, List.mem_singleton] at hx hy
      subst hx hy
      exact hyS hxS
    | any ps => rfl
    | row ps => rfl
  obtain ⟨⟨a, b, vs, rfl, ha, hb, hvs⟩, el, ed⟩ := treeP hT ht
  have hp : PsOk (partsOf T) := ⟨wfParts hok.1, by rw [← el]; exact hok.2⟩
  refine ⟨_, rfl, _, _, _, _, rfl, rfl, SqT.of ha, at0, rfl, _, rfl, ite2 (fun d => ?_) (fun d => ?_)⟩
  · have d1 : V.str (wordOf T) = V.str "any" := of_decide_eq_true d
    cases T with
    | thing t => cases ht
    | row ps => exact absurd d1 (show ¬ V.str "row" = V.str "any" by decide)
    | any ps =>
      exact ⟨_, rfl, _, _, _, _, rfl, rfl, SqT.of ha, at1, _, rfl, b, vs, ps, c, S, rfl, hb, hvs, hp, hc, by simp only [partsOf] at ed; omega, q⟩
  · cases T with
    | thing t => cases ht
    | any ps => exact absurd (decide_eq_true rfl) d
    | row ps =>
      exact ⟨_, rfl, _, _, _, _, rfl, rfl, SqT.of ha, at1, _, rfl, b, vs, ps, c, S, rfl, hb, hvs, hp, hc, by simp only [partsOf] at ed; omega, q⟩
end UR
namespace UR
open PySem PySem.Spec PyProof.Rows L2
theorem sc_joined_any : FnScope ["parts", "chosen", "empty", "full", "mixed", "lists", "middle", "part"] ["parts", "chosen"] (defScope (top 27)) := ⟨rfl, rfl, rfl, by decide +kernel, rfl, by decide +kernel, by decide +kernel⟩
set_option maxHeartbeats 8000000 in
theorem cal_joined_any {P : Program} {w : World} {K : PySem.W.Frag} {mg : Str → Option Value} {base : Heap} {k : Nat} (B : Bl mg) (D : DefAt K mg 27 "joined_any") (C_make_any : Cal P w K mg base (1) "make_any" ["parts"] sp_make_any) (C_make_row : Cal P w K mg base (2) "make_row" ["parts"] sp_make_row) (C_split : Cal P w K mg base (2 * k + 32) "split" ["tree", "chosen"] (sp_split k)) (C_with_share : Cal P w K mg base (31) "with_share" ["parts", "chosen", "wanted"] sp_with_share) :
    Cal P w K mg base (2 * k + 33) "joined_any" ["parts", "chosen"] (sp_joined_any k) := by
  have sc := sc_joined_any
  refine cal_of D sc (fun kV doc pm an cdv ct us hl => match us, hl with | [_, _], _ => rfl) (fun vs H Q E h => ?_) (fun f cdv A outer s H vs Q E hr h => ?_)
  · obtain ⟨b, ws, ps, c, S, rfl, hb, hws, hok, hc, hd, q⟩ := h
    rfl
  obtain ⟨b, ws, ps, c, S, rfl, hb, hws, hok, hc, hd, q⟩ := h
  refine ⟨_, (pss_cons (ps_set (i := 2) sc.nd rfl (Or.inl rfl) (pe_cal C_with_share (hr.mono (by omega)) (by rfl) (pa_cons (pv 0) (pa_cons (pv 1) (pa_cons pe_str pa_nil)))))
    (pss_cons (ps_set (i := 3) sc.nd rfl (Or.inl rfl) (pe_cal C_with_share (hr.mono (by omega)) (by rfl) (pa_cons (pv 0) (pa_cons (pv 1) (pa_cons pe_str pa_nil)))))
    (pss_cons (ps_set (i := 4) sc.nd rfl (Or.inl rfl) (pe_cal C_with_share (hr.mono (by omega)) (by rfl) (pa_cons (pv 0) (pa_cons (pv 1) (pa_cons pe_str pa_nil)))))
    (pss_cons (ps_if (pt_cmpR op_gt (pe_callB (call_lenK K) (by rfl) B.len PySem.boot_len (pa_cons (pv 4) pa_nil)) pe_int (nomark _)) (pss_one (ps_ret pe_non)) pss_nil)
    (pss_cons (ps_setLc (i := 5) (own := [("part", 7)]) rfl sc.nd rfl rfl (sw_true rfl rfl rfl (by decide +kernel)) (pi_listK K (pv 4)) (blkOk_by (N := ["parts", "chosen", "empty", "full", "mixed", "lists", "middle", "part"]) (sc := defScope (top 27)) (by decide +kernel)) (fun _ _ _ _ _ => (pg_name (i := 7) sc.nd rfl (Or.inl rfl))) (fun _ _ _ _ _ => pts_nil) (fun _ _ _ _ _ => (pe_cal C_split (hr.mono (by omega)) (by rfl) (pa_cons (pv 7) (pa_cons (pv 1) pa_nil)))))
    (pss_cons (ps_if (pt_cmpR (op_inDK K hr) pe_non (pv 5) (by with_unfolding_all rfl)) (pss_one (ps_ret pe_non)) pss_nil)
    (pss_cons (ps_if (pt_cmpR (op_eqDK K hr.units) (pv 5) (pe_lst pa_nil) (nomark _)) (pss_one (ps_ret (pe_cal C_make_any (hr.mono (by omega)) (by rfl) (pa_cons (pe_op op_cat (pv 2) (pe_lst (pa_cons (pe_cal C_make_any (hr.mono (by omega)) (by rfl) (pa_cons (pv 3) pa_nil)) pa_nil))) pa_nil)))) pss_nil)
    (pss_cons (ps_set (i := 6) sc.nd rfl (Or.inl rfl) (pe_callTy (call_listK K) (by rfl) B.list (by decide +kernel) (pa_cons (pe_ix (ix_listK K) (pv 5) pe_int (fun _ _ => rfl)) pa_nil)))
    (Evl.pss_cut (ps_if (pt_cmpR (op_neDK K hr.units) (pv 3) (pe_lst pa_nil) (nomark _)) (pss_one (ps_expr (pe_bm PySem.F.plainAttrs_list PySem.F.slot_list_append PySem.F.type_list_append mt_append (pv 6) (pa_cons (pe_cal C_make_any (hr.mono (by omega)) (by rfl) (pa_cons (pv 3) pa_nil)) pa_nil)))) pss_nil)
    (Evl.pss_cut (ps_if (pt_cmpR op_eq (pe_callB (call_lenK K) (by rfl) B.len PySem.boot_len (pa_cons (pv 5) pa_nil)) pe_int (nomark _)) (pss_one (ps_expr (pe_bm PySem.F.plainAttrs_list PySem.F.slot_list_extend PySem.F.type_list_extend mt_extend (pv 6) (pa_cons (pe_revLK K (pe_ix (ix_listK K) (pv 5) pe_int (fun _ _ => rfl))) pa_nil)))) pss_nil)
    (pss_one (ps_ret (pe_cal C_make_any (hr.mono (by omega)) (by rfl) (pa_cons (pe_op op_cat (pv 2) (pe_lst (pa_cons (pe_cal C_make_row (hr.mono (by omega)) (by rfl) (pa_cons (pv 6) pa_nil)) pa_nil))) pa_nil)))))))))))))), ?_⟩
  refine ⟨_, rfl, _, rfl, b, ws, ps, c, S, 0, rfl, hb, hws, hok, hc, by decide, fun p1 es H1 s1 n1 h1 he => ?_⟩
  refine ⟨_, rfl, _, rfl, b, ws, ps, c, S, 2, rfl, s1 _ _ hb, hws.tk (tk s1), hok, hc.tk (tk s1), by decide, fun p2 fs H2 s2 n2 h2 hf => ?_⟩
  have s12 := s1.trans s2
  refine ⟨_, rfl, _, rfl, b, ws, ps, c, S, 1, rfl, s12 _ _ hb, hws.tk (tk s12), hok, hc.tk (tk s12), by decide, fun p3 ms H3 s3 n3 h3 hm => ?_⟩
  have s13 := s12.trans s3
  have h1' := s3 _ _ (s2 _ _ h1)
  have h2' := s3 _ _ h2
  have he' := he.tk (tk (s2.trans s3))
  have hf' := hf.tk (tk s3)
  have lm := hm.length
  have lw : ∀ k, (withShare S ps k).length ≤ 24 := fun k => (share_ok hok).len
  refine ⟨_, rfl, p3, ms, rfl, .inl (SqL.of h3), _, _, rfl, rfl, _, rfl, ite2 (fun cm => ?_) (fun cm => ?_)⟩
  · have c2 : 2 < (ms.length : Int) := of_decide_eq_true cm
    exact q.1 (joinedAny_more (by omega)) H3 s13
  have lm2 : (withShare S ps 1).length ≤ 2 := by
    have : ¬ 2 < (ms.length : Int) := fun z => cm (decide_eq_true z)
    omega
  have mOk : ∀ m ∈ withShare S ps 1, TOk m ∧ rank S m = 1 ∧ m.depth ≤ k := fun m hm => by
    obtain ⟨a1, a2⟩ := mem_share.mp hm
    exact ⟨hok.part a1, a2, part_depth hd a1⟩
  -- lists
  refine ⟨_, rfl, p3, rfl, ⟨_, SqL.of h3⟩, fun D nD => ?_⟩
  refine lc_list (K := K) (a := p3) (xs := ms) (LcInv H3 D fun i ys H' => All2 (OptIn D H') ys (((withShare S ps 1).take i).map (split S k))) (lc_start nD .nil) (fun i H' _ g => SqL.of (g.2.1 _ _ h3)) (fun i x H' hi g => ?_) (fun H4 g => ?_)
  · obtain ⟨g1, g2, ys, g3, g4, g5⟩ := g
    obtain ⟨t, ht, hx⟩ := hm.get hi
    obtain ⟨t1, t2, t3⟩ := mOk t (List.mem_of_getElem? ht)
    have hi2 : i < 24 := by
      have := (List.getElem?_eq_some_iff.mp ht).1
      omega
    have step : ∀ v H2, Same H' H2 → OptIn D H2 v (split S k t) → ∃ acc, H2 D = some (.lst acc) ∧ acc.length < sizeLine ∧ LcInv H3 D (fun i ys H' => All2 (OptIn D H') ys (((withShare S ps 1).take i).map (split S k))) (i + 1) (upd H2 D (.lst (acc ++ [v]))) := fun v H2 e2 hv => by
      refine lc_put (by omega) g1 (g2.trans e2) (e2 _ _ g3) g4 ?_
      have e3 : ((withShare S ps 1).take (i + 1)).map (split S k) = ((withShare S ps 1).take i).map (split S k) ++ [split S k t] := by
        rw [List.take_add_one, ht, List.map_append]
        rfl
      rw [e3]
      exact (g5.imp fun _ _ z => (z.same e2).put (e2 _ _ g3)).snoc (hv.put (e2 _ _ g3))
    refine ⟨rfl, tyes ?_⟩
    refine ⟨_, rfl, _, rfl, x, c, t, S, rfl, hx.tk (tk g2), t1, hc.tk (tk (s13.trans g2)), t2, t3, fun en H2 e2 => step _ _ e2 (by rw [en]; rfl), fun L el p wl H2 e2 np hp hwl => step _ _ e2 ?_⟩
    rw [el]
    exact ⟨p, wl, rfl, (fun z => by rw [z, g3] at np; cases np), hp, hwl⟩
  obtain ⟨_, s4, ys, hD, _, hys⟩ := g
  rw [lm, List.take_length] at hys
  have ly := hys.length
  rw [List.length_map] at ly
  have h1'' := s4 _ _ h1'
  have h2'' := s4 _ _ h2'
  have he'' := he'.tk (tk s4)
  have hf'' := hf'.tk (tk s4)
  have s14 := s13.trans s4
  obtain ⟨k1, k2⟩ := dataO_ok (rs := (withShare S ps 1).map (split S k)) (fun L hL => by
    obtain ⟨m, hm, e⟩ := List.mem_map.mp hL
    obtain ⟨t1, t2, _⟩ := mOk m hm
    exact (split_len t1 t2 e).2)
  refine ⟨_, rfl, .none, ((withShare S ps 1).map (split S k)).map dataO, .non, .lst (SqL.of hD) (dpO hys), rfl, shaped_list k1 (by omega), _, rfl, ?_⟩
  rw [any_none]
  refine ite2 (fun d => ?_) (fun d => ?_)
  · exact q.1 (joinedAny_fail (mem_none.mp d) lm2) H4 s14
  have dn : none ∉ (withShare S ps 1).map (split S k) := fun z => d (mem_none.mpr z)
  refine ⟨_, rfl, by show 0 ≤ sizeLine; decide, fun l nl => ?_⟩
  have s5 := same_new nl (.lst [])
  refine eq_nil_data (s5 _ _ hD) upd_same (dpO (hys.imp fun _ _ z => z.same s5)) k1 (by omega) ⟨_, rfl, ite2 (fun d0 => ?_) (fun d0 => ?_)⟩
  · have z0 : withShare S ps 1 = [] := by
      have : ys.length = 0 := by simpa using d0
      exact List.eq_nil_of_length_eq_zero (by omega)
    have q2 := q.2 _ (joinedAny_zero z0)
    have s6 := s14.trans s5
    refine ⟨_, rfl, _, rfl, p2, fs, withShare S ps 2, rfl, s5 _ _ h2'', hf''.tk (tk s5), by have := lw 2; omega, fun v H5 s7 hv => ?_⟩
    refine ⟨by show 1 ≤ sizeLine; decide, fun o no => ?_⟩
    have s8 := same_new no (.lst [v])
    refine ⟨p1, o, es, [v], rfl, rfl, s8 _ _ (s7 _ _ (s5 _ _ h1'')), upd_same, sz (by have := lw 0; have := he.length; simp only [List.length_singleton]; omega), fun r nr => ?_⟩
    have s9 := same_new nr (.lst (es ++ [v]))
    have kk := ((tk s5).trans (tk s7)).trans ((tk s8).trans (tk s9))
    refine ⟨r, es ++ [v], withShare S ps 0 ++ [makeAny (withShare S ps 2)], rfl, upd_same, (he''.tk kk).snoc (hv.tk ((tk s8).trans (tk s9))), by have := lw 0; simp; omega, fun u H6 s10 hu => q2 u H6 (((((s14.trans s5).trans s7).trans s8).trans s9).trans s10) hu⟩
  have nz : ys ≠ [] := by simpa using d0
  have s15 := s14.trans s5
  have hys5 : All2 (OptIn D (upd H4 l (.lst []))) ys ((withShare S ps 1).map (split S k)) := hys.imp fun _ _ z => z.same s5
  have hD5 := s5 _ _ hD
  generalize upd H4 l (.lst []) = H5 at *
  -- the first list
  obtain ⟨m0, mr, em⟩ : ∃ m0 mr, withShare S ps 1 = m0 :: mr := by
    cases e : withShare S ps 1 with
    | nil => rw [e] at ly; exact absurd (List.eq_nil_of_length_eq_zero ly) nz
    | cons a r => exact ⟨a, r, rfl⟩
  rw [em, List.map_cons] at hys5 dn
  obtain ⟨y0, yr, rfl⟩ : ∃ y0 yr, ys = y0 :: yr := List.exists_cons_of_ne_nil nz
  obtain ⟨hy0, hyr⟩ : OptIn D H5 y0 (split S k m0) ∧ All2 (OptIn D H5) yr (mr.map (split S k)) := by
    cases hys5 with
    | cons a b => exact ⟨a, b⟩
  obtain ⟨l0, e0⟩ : ∃ l0, split S k m0 = some l0 := by
    cases e : split S k m0 with
    | none => rw [e] at dn; exact absurd List.mem_cons_self dn
    | some l0 => exact ⟨l0, rfl⟩
  rw [e0] at hy0
  obtain ⟨a0, w0, rfl, na0, ha0, hw0⟩ := hy0
  obtain ⟨t1, t2, _⟩ := mOk m0 (by rw [em]; exact List.mem_cons_self)
  have ll0 := (split_len t1 t2 e0).1
  have lw0 := hw0.length
  refine ⟨_, rfl, _, _, _, _, rfl, rfl, SqL.of hD5, at0, a0, w0, rfl, .inl (SqL.of ha0), fun pm nm => ?_⟩
  have s6 := same_new nm (.lst w0)
  have lb0 : (bundle (withShare S ps 2)).length ≤ 1 := by unfold bundle; split <;> simp
  -- the full ones
  refine ⟨fun σ H' => σ = [some (.ref b), some c, some (.ref p1), some (.ref p2), some (.ref p3), some (.ref D), some (.ref pm), none] ∧ Same H5 H' ∧ ∃ gs, H' pm = some (.lst gs) ∧ TreesIn H' gs (l0 ++ bundle (withShare S ps 2)), ?_, fun σ H' m => ?_⟩
  · have h2m := s6 _ _ (s5 _ _ h2'')
    have hfm := hf''.tk ((tk s5).trans (tk s6))
    refine ⟨_, rfl, by show 0 ≤ sizeLine; decide, fun l' nl' => ?_⟩
    have s7 := same_new nl' (.lst [])
    refine ne_nil_trees (s7 _ _ h2m) upd_same (hfm.tk (tk s7)) (share_ok hok).depthL ⟨_, rfl, ite2 (fun d => ?_) (fun d => ?_)⟩
    · have nz2 : withShare S ps 2 ≠ [] := by simpa using d
      refine ⟨_, rfl, .inl ⟨rfl, _, SqL.of (s7 _ _ upd_same)⟩, _, rfl, p2, fs, withShare S ps 2, rfl, s7 _ _ h2m, hfm.tk (tk s7), by have := lw 2; omega, fun v H6 s8 hv => ?_⟩
      have g1 := s8 _ _ (s7 _ _ (upd_same (H := H5) (a := pm) (o := .lst w0)))
      refine ⟨pm, w0, v, rfl, rfl, g1, szl (by omega), rfl, same_mut ((s6.trans s7).trans s8) nm, w0 ++ [v], upd_same, ?_⟩
      have e : bundle (withShare S ps 2) = [makeAny (withShare S ps 2)] := by unfold bundle; rw [if_neg nz2]
      rw [e]
      have kk := tk_lst g1 (.lst (w0 ++ [v]))
      exact (hw0.tk (((tk s6).trans (tk s7)).trans ((tk s8).trans kk))).snoc (hv.tk kk)
    · have nz2 : withShare S ps 2 = [] := by simpa using d
      refine ⟨rfl, s6.trans s7, w0, s7 _ _ upd_same, ?_⟩
      rw [nz2]
      show TreesIn _ w0 (l0 ++ [])
      rw [List.append_nil]
      exact hw0.tk ((tk s6).trans (tk s7))
  obtain ⟨rfl, m1, gs, m2, m3⟩ := m
  have lgs := m3.length
  rw [List.length_append] at lgs
  -- the second list
  refine ⟨fun σ H' => σ = [some (.ref b), some c, some (.ref p1), some (.ref p2), some (.ref p3), some (.ref D), some (.ref pm), none] ∧ Same H5 H' ∧ ∃ gs M, H' pm = some (.lst gs) ∧ TreesIn H' gs M ∧ M.length ≤ 90 ∧ joinedAny (split S k) S ps = some (makeAny (withShare S ps 0 ++ [makeRow M])), ?_, fun σ H6 m => ?_⟩
  · refine ⟨_, rfl, D, _, rfl, .inl (SqL.of (m1 _ _ hD5)), rfl, _, rfl, ite2 (fun d => ?_) (fun d => ?_)⟩
    · have d1 : V.int ((V.ref a0 :: yr).length : Int) = V.int 2 := of_decide_eq_true d
      have d2 : yr.length = 1 := by
        have := V.int.inj d1
        simp only [List.length_cons] at this
        omega
      have lr := hyr.length
      rw [List.length_map] at lr
      obtain ⟨y1, rfl⟩ : ∃ y, yr = [y] := List.length_eq_one_iff.mp d2
      obtain ⟨m1', rfl⟩ : ∃ y, mr = [y] := List.length_eq_one_iff.mp (by omega)
      have hy1 : OptIn D H5 y1 (split S k m1') := by
        cases hyr with
        | cons a b => exact a
      obtain ⟨l1, e1⟩ : ∃ l1, split S k m1' = some l1 := by
        cases e : split S k m1' with
        | none =>
          simp only [List.map_cons, List.map_nil, e, List.mem_cons] at dn
          exact absurd (Or.inr (Or.inl trivial)) dn
        | some l1 => exact ⟨l1, rfl⟩
      rw [e1] at hy1
      obtain ⟨a1, w1, rfl, na1, ha1, hw1⟩ := hy1
      obtain ⟨u1, u2, _⟩ := mOk m1' (by rw [em]; exact List.mem_cons_of_mem _ List.mem_cons_self)
      have ll1 := (split_len u1 u2 e1).1
      have lw1 := hw1.length
      refine ⟨_, rfl, .inl ⟨rfl, _, SqL.of m2⟩, _, rfl, _, _, _, _, rfl, rfl, SqL.of (m1 _ _ hD5), at1, a1, w1, rfl, SqL.of (m1 _ _ ha1), fun o no => ?_⟩
      have s7 := same_new no (.lst w1.reverse)
      have g7 := s7 _ _ m2
      refine ⟨pm, o, gs, w1.reverse, rfl, rfl, g7, upd_same, sz (by rw [List.length_reverse]; omega), rfl, same_mut (m1.trans s7) nm, gs ++ w1.reverse, l0 ++ bundle (withShare S ps 2) ++ l1.reverse, upd_same, ?_, by rw [List.length_append, List.length_append, List.length_reverse]; omega, joinedAny_two em e0 e1⟩
      have kk := tk_lst g7 (.lst (gs ++ w1.reverse))
      exact (m3.tk ((tk s7).trans kk)).append ((hw1.tk ((tk m1).trans ((tk s7).trans kk))).reverse)
    · have d2 : yr.length ≠ 1 := fun z => d (decide_eq_true (by simp only [List.length_cons, z]; rfl))
      have lr := hyr.length
      rw [List.length_map] at lr
      have lm3 := lm2
      rw [em, List.length_cons] at lm3
      have emr : mr = [] := List.eq_nil_of_length_eq_zero (by omega)
      subst emr
      exact ⟨rfl, m1, gs, l0 ++ bundle (withShare S ps 2), m2, m3, by rw [List.length_append]; omega, joinedAny_one em e0⟩
  obtain ⟨rfl, n1', gs2, M, n2', n3', n4', n5'⟩ := m
  have q2 := q.2 _ n5'
  refine ⟨_, rfl, _, rfl, pm, gs2, M, rfl, n2', n3', by omega, fun v H7 s7 hv => ?_⟩
  refine ⟨by show 1 ≤ sizeLine; decide, fun o no => ?_⟩
  have s8 := same_new no (.lst [v])
  have sx := s5.trans (n1'.trans (s7.trans s8))
  refine ⟨p1, o, es, [v], rfl, rfl, sx _ _ h1'', upd_same, sz (by have := lw 0; have := he.length; simp only [List.length_singleton]; omega), fun r nr => ?_⟩
  have s9 := same_new nr (.lst (es ++ [v]))
  refine ⟨r, es ++ [v], withShare S ps 0 ++ [makeRow M], rfl, upd_same, (he''.tk ((tk sx).trans (tk s9))).snoc (hv.tk ((tk s8).trans (tk s9))), by have := lw 0; simp; omega, fun u H8 s10 hu => q2 u H8 (((s14.trans sx).trans s9).trans s10) hu⟩
end UR
namespace UR
open PySem PySem.Spec PyProof.Rows L2
theorem sc_joined_row : FnScope ["parts", "chosen", "shares", "touched", "first", "last", "found", "index", "inner", "part"] ["parts", "chosen"] (defScope (top 28)) := ⟨rfl, rfl, rfl, by decide +kernel, rfl, by decide +kernel, by decide +kernel⟩
set_option maxHeartbeats 8000000 in
theorem cal_joined_row {P : Program} {w : World} {K : PySem.W.Frag} {mg : Str → Option Value} {base : Heap} {k : Nat} (B : Bl mg) (D : DefAt K mg 28 "joined_row") (C_make_row : Cal P w K mg base (2) "make_row" ["parts"] sp_make_row) (C_share : Cal P w K mg base (30) "share" ["tree", "chosen"] sp_share) (C_split : Cal P w K mg base (2 * k + 32) "split" ["tree", "chosen"] (sp_split k)) :
    Cal P w K mg base (2 * k + 33) "joined_row" ["parts", "chosen"] (sp_joined_row k) := by
  have sc := sc_joined_row
  refine cal_of D sc (fun kV doc pm an cdv ct us hl => match us, hl with | [_, _], _ => rfl) (fun vs H Q E h => ?_) (fun f cdv A outer s H vs Q E hr h => ?_)
  · obtain ⟨b, ws, ps, c, S, rfl, hb, hws, hok, hc, hd, ht0, q⟩ := h
    rfl
  obtain ⟨b, ws, ps, c, S, rfl, hb, hws, hok, hc, hd, ht0, q⟩ := h
  refine ⟨_, (pss_cons (ps_set (i := 2) sc.nd rfl (Or.inr rfl) (pe_lc (own := [("part", 9)]) rfl sc.nd (pi_tupK K (pv 0)) (blkOk_by (N := ["parts", "chosen", "shares", "touched", "first", "last", "found", "index", "inner", "part"]) (sc := defScope (top 28)) (by decide +kernel)) (fun _ _ _ _ _ => (pg_name (i := 9) sc.nd rfl (Or.inl rfl))) (fun _ _ _ _ _ => pts_nil) (fun _ _ _ _ _ => (pe_cal C_share (hr.mono (by omega)) (by rfl) (pa_cons (pv 9) (pa_cons (pv 1) pa_nil))))))
    (pss_cons (ps_setLc (i := 3) (own := [("index", 7)]) rfl sc.nd rfl rfl (sw_true rfl rfl rfl (by decide +kernel)) (pi_range1 (by rfl) B.range (pa_cons (pe_callB (call_lenK K) (by rfl) B.len PySem.boot_len (pa_cons (pv 0) pa_nil)) pa_nil)) (blkOk_by (N := ["parts", "chosen", "shares", "touched", "first", "last", "found", "index", "inner", "part"]) (sc := defScope (top 28)) (by decide +kernel)) (fun _ _ _ _ _ => (pg_name (i := 7) sc.nd rfl (Or.inl rfl))) (fun _ _ _ _ _ => (pts_one (pt_cmpR op_ne (pe_ix (ix_listK K) (pv 2) (pv 7) (fun _ _ => rfl)) pe_str (nomark _)))) (fun _ _ _ _ _ => (pv 7)))
    (pss_cons (ps_set (i := 4) sc.nd rfl (Or.inl rfl) (pe_ix (ix_listK K) (pv 3) pe_int (fun _ _ => rfl)))
    (pss_cons (ps_set (i := 5) sc.nd rfl (Or.inl rfl) (pe_ix (ix_listK K) (pv 3) (pe_un un_neg pe_int) (fun _ _ => rfl)))
    (pss_cons (ps_if (pt_cmpR (op_neDK K hr.units) (pe_lc (own := [("index", 7)]) rfl sc.nd (pi_range2 (by rfl) B.range (pa_cons (pe_op op_add (pv 4) pe_int) (pa_cons (pv 5) pa_nil))) (blkOk_by (N := ["parts", "chosen", "shares", "touched", "first", "last", "found", "index", "inner", "part"]) (sc := defScope (top 28)) (by decide +kernel)) (fun _ _ _ _ _ => (pg_name (i := 7) sc.nd rfl (Or.inl rfl))) (fun _ _ _ _ _ => (pts_one (pt_cmpR op_ne (pe_ix (ix_listK K) (pv 2) (pv 7) (fun _ _ => rfl)) pe_str (nomark _)))) (fun _ _ _ _ _ => (pv 7))) (pe_lst pa_nil) (nomark _)) (pss_one (ps_ret pe_non)) pss_nil)
    (pss_cons (ps_set (i := 6) sc.nd rfl (Or.inl rfl) (pe_callTy (call_listK K) (by rfl) B.list (by decide +kernel) (pa_cons (pe_slice (sl_tupAK K) (pv 0) po_none (po_some (pv 4))) pa_nil)))
    (pss_cons (ps_for PassesOwn.never rfl (pi_range2 (by rfl) B.range (pa_cons (pv 4) (pa_cons (pe_op op_add (pv 5) pe_int) pa_nil))) (pg_name (i := 7) sc.nd rfl (Or.inl rfl)) (pss_cons (ps_set (i := 8) sc.nd rfl (Or.inl rfl) (pe_lst (pa_cons (pe_ix (ix_tupK K) (pv 0) (pv 7) (fun _ _ => rfl)) pa_nil)))
      (Evl.pss_cut (ps_if (pt_cmpR op_eq (pe_ix (ix_listK K) (pv 2) (pv 7) (fun _ _ => rfl)) pe_str (nomark _)) (pss_cons (ps_set (i := 8) sc.nd rfl (Or.inl rfl) (pe_cal C_split (hr.mono (by omega)) (by rfl) (pa_cons (pe_ix (ix_tupK K) (pv 0) (pv 7) (fun _ _ => rfl)) (pa_cons (pv 1) pa_nil))))
        (pss_cons (ps_if (pt_cmpR op_isN (pv 8) pe_non (nomark _)) (pss_one (ps_ret pe_non)) pss_nil)
        (pss_one (ps_if (pt_cmpR op_eq (pv 7) (pv 5) (nomark _)) (pss_one (ps_set (i := 8) sc.nd rfl (Or.inl rfl) (pe_revLK K (pv 8)))) pss_nil)))) pss_nil)
      (pss_one (ps_expr (pe_bm PySem.F.plainAttrs_list PySem.F.slot_list_extend PySem.F.type_list_extend mt_extend (pv 6) (pa_cons (pv 8) pa_nil)))))))
    (pss_cons (ps_expr (pe_bm PySem.F.plainAttrs_list PySem.F.slot_list_extend PySem.F.type_list_extend mt_extendT (pv 6) (pa_cons (pe_slice (sl_tupAK K) (pv 0) (po_some (pe_op op_add (pv 5) pe_int)) po_none) pa_nil)))
    (pss_one (ps_ret (pe_cal C_make_row (hr.mono (by omega)) (by rfl) (pa_cons (pv 6) pa_nil)))))))))))), ?_⟩
  have k0 := hok.len
  have lw := hws.length
  -- shares
  refine ⟨_, rfl, b, rfl, ⟨_, SqT.of hb⟩, fun D nD => ?_⟩
  refine lc_tup (K := K) (a := b) (xs := ws) (LcInv H D fun i ys _ => ys = (ps.take i).map fun t => shV (rank S t)) (lc_start nD rfl) (fun i H' _ g => SqT.of (g.2.1 _ _ hb))
    (fun i x H' hi g => turn_share (σ := start ["parts", "chosen", "shares", "touched", "first", "last", "found", "index", "inner", "part"] [.ref b, c]) (vs := [9]) (j := 9) (i1 := 1) hws hok hc (fun _ => rfl) (fun _ => rfl) (fun _ => rfl) hi g) (fun H1 g => ?_)
  obtain ⟨_, s1, ys, hD, _, g5⟩ := g
  rw [lw, List.take_length] at g5
  subst g5
  have b1 := s1 _ _ hb
  have w1 := hws.tk (tk s1)
  have c1 := hc.tk (tk s1)
  have shAt : ∀ i (hi : i < ps.length), atI (ps.map fun t => shV (rank S t)) (i : Int) = some (shV (rank S ps[i])) := fun i hi => atI_nat (by rw [List.getElem?_map, List.getElem?_eq_getElem hi]; rfl)
  -- touched
  refine ⟨_, rfl, b, ws, rfl, .inr (SqT.of b1), _, rfl, by omega, by omega, fun T nT => ?_⟩
  refine lc_range (lo := 0) (LcInv H1 T fun i ys _ => ys = ((List.range i).filter fun i => decide (rank S (ps.getD i default) ≠ 0)).map nV) (lc_start nT rfl) (fun i H' hi g => ?_) (fun H2 g => ?_)
  · obtain ⟨g1, g2, ys, g3, g4, g5⟩ := g
    have hi2 : i < ps.length := by omega
    have ei : (0 : Int) + (i : Int) = (i : Int) := Int.zero_add _
    refine ⟨rfl, _, rfl, _, rfl, _, _, _, _, rfl, rfl, SqL.of (g2 _ _ hD), by rw [ei]; exact shAt i hi2, rfl, _, rfl, ?_⟩
    have hg : ps.getD i default = ps[i] := getD_at _ hi2
    by_cases z : rank S ps[i] = 0
    · have e : decide (shV (rank S ps[i]) = V.str "none") = true := decide_eq_true (by rw [z]; rfl)
      refine ite2 (fun d => absurd d (by rw [e]; decide)) (fun d => lc_skip g1 g2 g3 g4 ?_)
      rw [range_filter_succ, hg, if_neg (by simp [z]), List.append_nil]
      exact g5
    · have e : decide (shV (rank S ps[i]) = V.str "none") = false := decide_eq_false (fun y => z ((shV_inj (rank_le S _) (by decide : 0 ≤ 2)).mp y))
      refine ite2 (fun d => ⟨_, rfl, lc_put (by omega) g1 g2 g3 g4 ?_⟩) (fun d => absurd (by rw [e]; rfl) d)
      rw [range_filter_succ, hg, if_pos (by simp [z]), List.map_append, ← g5, ei]
      rfl
  obtain ⟨_, s2, ys, hT, _, g5⟩ := g
  have et : ys = (touched S ps).map nV := by
    rw [g5, show ((ws.length : Int)).toNat = ps.length by omega]
    rfl
  subst et
  clear g5
  obtain ⟨f0, tr, ef⟩ : ∃ f0 tr, touched S ps = f0 :: tr := List.exists_cons_of_ne_nil ht0
  obtain ⟨l0, el⟩ : ∃ l0, (touched S ps).getLast? = some l0 := ⟨_, List.getLast?_eq_some_getLast ht0⟩
  have hf0 := (mem_touched.mp (ef ▸ List.mem_cons_self : f0 ∈ touched S ps)).1
  have hl0 := (mem_touched.mp (List.mem_of_getLast? el)).1
  have hfl := ascending_le touched_lt ef el
  have er := joinedRow_eq (sp := split S k) (S := S) (ps := ps) (f := f0) (l := l0) (by rw [ef]; rfl) (getLastD_of el)
  refine ⟨_, rfl, _, _, _, _, rfl, rfl, SqL.of hT, (by rw [ef]; exact at0 : atI ((touched S ps).map nV) 0 = some (nV f0)), ?_⟩
  refine ⟨_, rfl, 1, rfl, _, _, _, _, rfl, rfl, SqL.of hT, (at_neg1 (by rw [List.getLast?_map, el]; rfl) : atI ((touched S ps).map nV) (-1) = some (nV l0)), ?_⟩
  -- the middle ones
  have s12 := s1.trans s2
  have hD2 := s2 _ _ hD
  refine ⟨_, rfl, _, _, rfl, rfl, _, rfl, (f0 : Int) + 1, (l0 : Int), rfl, ⟨by omega, by omega, by omega, by omega⟩, fun M nM => ?_⟩
  refine lc_range (lo := (f0 : Int) + 1) (LcInv H2 M fun i ys _ => ∃ l : List Nat, ys = l.map nV ∧ (l = [] ↔ ∀ u < i, rank S (ps.getD (f0 + 1 + u) default) = 2)) (lc_start nM ⟨[], rfl, by simp⟩) (fun i H' hi g => ?_) (fun H3 g => ?_)
  · obtain ⟨g1, g2, ys, g3, g4, l, g5, g6⟩ := g
    have hi2 : f0 + 1 + i < ps.length := by omega
    have ei : (f0 : Int) + 1 + (i : Int) = ((f0 + 1 + i : Nat) : Int) := by omega
    refine ⟨rfl, _, rfl, _, rfl, _, _, _, _, rfl, rfl, SqL.of (g2 _ _ hD2), by rw [ei]; exact shAt _ hi2, rfl, _, rfl, ?_⟩
    have hg : ps.getD (f0 + 1 + i) default = ps[f0 + 1 + i] := getD_at _ hi2
    by_cases z : rank S ps[f0 + 1 + i] = 2
    · have e : decide (shV (rank S ps[f0 + 1 + i]) = V.str "all") = true := decide_eq_true (by rw [z]; rfl)
      refine ite2 (fun d => absurd d (by rw [e]; decide)) (fun d => lc_skip g1 g2 g3 g4 ⟨l, g5, ?_⟩)
      rw [g6]
      refine ⟨fun h u hu => ?_, fun h u hu => h u (by omega)⟩
      by_cases y : u = i
      · subst y; rw [hg]; exact z
      · exact h u (by omega)
    · have e : decide (shV (rank S ps[f0 + 1 + i]) = V.str "all") = false := decide_eq_false (fun y => z ((shV_inj (rank_le S _) (by decide : 2 ≤ 2)).mp y))
      refine ite2 (fun d => ⟨_, rfl, lc_put (by omega) g1 g2 g3 g4 ⟨l ++ [f0 + 1 + i], ?_, ?_⟩⟩) (fun d => absurd (by rw [e]; rfl) d)
      · rw [g5, List.map_append, ei]
        rfl
      · refine ⟨fun h => by simp at h, fun h => absurd (h i (by omega)) (by rw [hg]; exact z)⟩
  obtain ⟨_, s3, ys, hM, _, l, rfl, g6⟩ := g
  refine ⟨by show 0 ≤ sizeLine; decide, fun l' nl' => ?_⟩
  have s4 := same_new nl' (.lst [])
  obtain ⟨y1, y2, y3⟩ := dp_ints (K := K) (H := upd H3 l' (.lst [])) l
  refine ne_nil_data (s4 _ _ hM) upd_same y1 y2 (by omega) ⟨_, rfl, ite2 (fun d => ?_) (fun d => ?_)⟩
  · have ne : l ≠ [] := by simpa using d
    refine q.1 ?_ _ ((s12.trans s3).trans s4)
    rw [er, if_neg]
    intro z
    refine ne (g6.mpr fun u hu => (mids_all (f := f0) hl0).mp z u (by omega))
  have e0 : l = [] := by simpa using d
  have hall : ((ps.drop (f0 + 1)).take (l0 - (f0 + 1))).all (fun p => decide (rank S p = 2)) = true := (mids_all hl0).mpr fun u hu => g6.mp e0 u (by omega)
  rw [if_pos hall] at er
  have s14 := (s12.trans s3).trans s4
  have hD4 := s4 _ _ (s3 _ _ hD2)
  generalize upd H3 l' (.lst []) = H4 at *
  have b4 := s14 _ _ hb
  -- found
  refine ⟨_, rfl, _, rfl, (f0 : Int), rfl, slA_take b4 f0 (fun pt H5 s5 hpt => ?_)⟩
  refine ⟨pt, ws.take f0, rfl, .inr (SqT.of hpt), fun pf nf => ?_⟩
  have s6 := same_new nf (.lst (ws.take f0))
  have s15 := s14.trans s5
  have w5 := hws.tk (tk s15)
  have hD6 := s6 _ _ (s5 _ _ hD4)
  have partAt : ∀ i, i < l0 + 1 - f0 → ((ps.drop f0).take (l0 + 1 - f0))[i]? = some ps[f0 + i]! := fun i hi => by
    rw [List.getElem?_take_of_lt hi, List.getElem?_drop, List.getElem?_eq_getElem (by omega), getElem!_pos ps (f0 + i) (by omega)]
  -- the loop
  refine ⟨_, rfl, _, rfl, _, _, rfl, rfl, (f0 : Int), (l0 : Int) + 1, rfl, ⟨by omega, by omega, by omega, by omega⟩, ?_⟩
  refine for_range (lo := (f0 : Int)) (fun t σ H' => σ[0]? = some (some (.ref b)) ∧ σ[1]? = some (some c) ∧ σ[2]? = some (some (.ref D)) ∧ σ[5]? = some (some (nV l0)) ∧ σ[6]? = some (some (.ref pf)) ∧ σ.length = 10 ∧ Same H5 H' ∧
      ∃ gs L, H' pf = some (.lst gs) ∧ TreesIn H' gs (ps.take f0 ++ L) ∧ gs.length ≤ 24 + 24 * t ∧ (t ≤ l0 - f0 → splice (split S k) S ((ps.drop f0).take t) = some L) ∧ (t = l0 + 1 - f0 → rowMid (split S k) S ((ps.drop f0).take t) = some L))
    ⟨rfl, rfl, rfl, rfl, rfl, rfl, s6, ws.take f0, [], upd_same, by rw [List.append_nil]; exact (w5.tk (tk s6)).take f0, by rw [List.length_take]; omega, fun _ => rfl, fun z => by omega⟩ (fun t σ H' ht g => ?_) (fun σ H' g => ?_)
  · obtain ⟨i0, i1, i2, i5, i6, i10, g1, gs, L, g2, g3, g4, g5, g6⟩ := g
    have ht2 : t < l0 + 1 - f0 := by omega
    have hp : f0 + t < ps.length := by omega
    have ei : (f0 : Int) + (t : Int) = ((f0 + t : Nat) : Int) := by omega
    obtain ⟨x, hx⟩ : ∃ x, ws[f0 + t]? = some x := ⟨_, List.getElem?_eq_getElem (by omega)⟩
    obtain ⟨p, hpp, hxp⟩ := w5.get hx
    have ep : ps[f0 + t] = p := by rw [List.getElem?_eq_getElem hp] at hpp; exact Option.some.inj hpp
    have pm := List.mem_of_getElem? hpp
    have hdt : (ps.drop f0)[t]? = some p := by rw [List.getElem?_drop]; exact hpp
    have hL := g5 (by omega)
    have j0 := getS (v := some (V.int ((f0 : Int) + (t : Int)))) i0 (show 7 ≠ 0 by decide)
    have j1 := getS (v := some (V.int ((f0 : Int) + (t : Int)))) i1 (show 7 ≠ 1 by decide)
    have j2 := getS (v := some (V.int ((f0 : Int) + (t : Int)))) i2 (show 7 ≠ 2 by decide)
    have j5 := getS (v := some (V.int ((f0 : Int) + (t : Int)))) i5 (show 7 ≠ 5 by decide)
    have j6 := getS (v := some (V.int ((f0 : Int) + (t : Int)))) i6 (show 7 ≠ 6 by decide)
    have j7 := setS (σ := σ) (i := 7) (v := some (V.int ((f0 : Int) + (t : Int)))) (by omega)
    have j10 : (σ.set 7 (some (V.int ((f0 : Int) + (t : Int))))).length = 10 := by rw [List.length_set]; exact i10
    have s56 := s15.trans g1
    have xAt : atI ws ((f0 : Int) + (t : Int)) = some x := by rw [ei]; exact atI_nat hx
    refine ⟨_, j0, _, j7, _, _, _, _, rfl, rfl, SqT.of (s56 _ _ hb), xAt, by show 1 ≤ sizeLine; decide, fun pi ni => ?_⟩
    have s7 := same_new ni (.lst [x])
    have hDs := s7 _ _ (g1 _ _ (s5 _ _ hD4))
    have shp : atI (ps.map fun t => shV (rank S t)) ((f0 : Int) + (t : Int)) = some (shV (rank S p)) := by rw [ei, ← ep]; exact shAt _ hp
    refine ⟨fun σ' H'' => σ'[0]? = some (some (.ref b)) ∧ σ'[1]? = some (some c) ∧ σ'[2]? = some (some (.ref D)) ∧ σ'[5]? = some (some (nV l0)) ∧ σ'[6]? = some (some (.ref pf)) ∧ σ'.length = 10 ∧ Same H' H'' ∧
      ∃ l wl pl, piece (split S k) S p = some l ∧ l.length ≤ 24 ∧ σ'[8]? = some (some (.ref pl)) ∧ H'' pl = some (.lst wl) ∧ TreesIn H'' wl (if t = l0 - f0 then l.reverse else l), ?_, fun σ' H'' m => ?_⟩
    · refine ⟨_, getS j2 (by decide), _, getS j7 (by decide), _, _, _, _, rfl, rfl, SqL.of hDs, shp, rfl, _, rfl, ite2 (fun d => ?_) (fun d => ?_)⟩
      · have r1 : rank S p = 1 := (shV_inj (rank_le S p) (by decide : 1 ≤ 2)).mp (of_decide_eq_true d)
        have pe : piece (split S k) S p = split S k p := by unfold piece; rw [if_pos r1]
        have s8 := s56.trans s7
        refine ⟨_, getS j0 (by decide), _, getS j7 (by decide), _, _, _, _, rfl, rfl, SqT.of (s8 _ _ hb), xAt, _, getS j1 (by decide), x, c, p, S, rfl, hxp.tk ((tk g1).trans (tk s7)), hok.part pm, hc.tk (tk s8), r1, part_depth hd pm, fun en H6 s9 => ?_, fun l elp pl wl H6 s9 n9 hl hwl => ?_⟩
        · refine ⟨_, setS (by simp [j10]), rfl, _, rfl, iteT (q.1 ?_ H6 (s8.trans s9))⟩
          rw [er, rowMid_none (i := t) (p := p) (by rw [List.getElem?_take_of_lt ht2]; exact hdt) (by rw [pe]; exact en)]
        · have sl := split_len (hok.part pm) r1 elp
          refine ⟨_, setS (by simp [j10]), rfl, _, rfl, iteF ?_⟩
          refine ⟨_, getS (getS j7 (by decide)) (by decide), _, getS (getS j5 (by decide)) (by decide), rfl, _, rfl, ite2 (fun e => ?_) (fun e => ?_)⟩
          · have e1 : V.int ((f0 : Int) + (t : Int)) = V.int (l0 : Int) := of_decide_eq_true e
            have e2 : t = l0 - f0 := by have := V.int.inj e1; omega
            refine ⟨_, setS (by simp [j10]), pl, wl, rfl, SqL.of hl, fun o no => ?_⟩
            have s10 := same_new no (.lst wl.reverse)
            refine ⟨getS (getS (getS j0 (by decide)) (by decide)) (by decide), getS (getS (getS j1 (by decide)) (by decide)) (by decide), getS (getS (getS j2 (by decide)) (by decide)) (by decide), getS (getS (getS j5 (by decide)) (by decide)) (by decide), getS (getS (getS j6 (by decide)) (by decide)) (by decide), by simp [j10], (s7.trans s9).trans s10, l, wl.reverse, o, by rw [pe]; exact elp, sl.1, setS (by simp [j10]), upd_same, ?_⟩
            rw [if_pos e2]
            exact (hwl.tk (tk s10)).reverse
          · have e2 : ¬ t = l0 - f0 := fun z => e (decide_eq_true (by show V.int _ = V.int _; congr 1; omega))
            refine ⟨getS (getS j0 (by decide)) (by decide), getS (getS j1 (by decide)) (by decide), getS (getS j2 (by decide)) (by decide), getS (getS j5 (by decide)) (by decide), getS (getS j6 (by decide)) (by decide), by simp [j10], s7.trans s9, l, wl, pl, by rw [pe]; exact elp, sl.1, setS (by simp [j10]), hl, ?_⟩
            rw [if_neg e2]
            exact hwl
      · have r1 : ¬ rank S p = 1 := fun z => d (decide_eq_true ((shV_inj (rank_le S p) (by decide : 1 ≤ 2)).mpr z))
        have pe : piece (split S k) S p = some [p] := by unfold piece; rw [if_neg r1]
        refine ⟨getS j0 (by decide), getS j1 (by decide), getS j2 (by decide), getS j5 (by decide), getS j6 (by decide), by simp [j10], s7, [p], [x], pi, pe, by simp, setS (by omega), upd_same, ?_⟩
        have e : (if t = l0 - f0 then [p].reverse else [p]) = [p] := by split <;> rfl
        rw [e]
        exact .one (hxp.tk ((tk g1).trans (tk s7)))
    obtain ⟨k0', k1, k2, k5, k6, k10, s11, l, wl, pl, m1, m2, m3, m4, m5⟩ := m
    have g7 := s11 _ _ g2
    have lwl : wl.length ≤ 24 := by
      have := m5.length
      split at this
      · rw [List.length_reverse] at this; omega
      · omega
    refine ⟨_, k6, .inl ⟨rfl, _, SqL.of g7⟩, _, m3, pf, pl, gs, wl, rfl, rfl, g7, m4, sz (by omega), k0', k1, k2, k5, k6, k10, same_mut (g1.trans s11) nf, gs ++ wl, L ++ (if t = l0 - f0 then l.reverse else l), upd_same, ?_, by rw [List.length_append]; omega, fun z => ?_, fun z => ?_⟩
    · have kk := tk_lst g7 (.lst (gs ++ wl))
      rw [← List.append_assoc]
      exact (g3.tk ((tk s11).trans kk)).append (m5.tk kk)
    · rw [if_neg (by omega)]
      exact splice_take hdt hL m1
    · have e2 : t = l0 - f0 := by omega
      rw [if_pos e2, List.take_add_one, hdt]
      exact rowMid_snoc m1 hL
  obtain ⟨i0, i1, i2, i5, i6, i10, g1, gs, L, g2, g3, g4, g5, g6⟩ := g
  have em : (((l0 : Int) + 1 - (f0 : Int))).toNat = l0 + 1 - f0 := by omega
  rw [em] at g4 g5 g6
  rw [g6 rfl] at er
  have s7 := s15.trans g1
  have el1 : (l0 : Int) + 1 = ((l0 + 1 : Nat) : Int) := by omega
  refine ⟨_, i6, .inl ⟨rfl, _, SqL.of g2⟩, _, i0, _, i5, _, _, rfl, rfl, ((l0 + 1 : Nat) : Int), congrArg V.int el1, ?_⟩
  dsimp only [tNoPart]
  refine slA_drop (s7 _ _ hb) (l0 + 1) (fun pd H6 s8 hpd => ?_)
  have g7 := s8 _ _ g2
  refine ⟨pf, pd, gs, ws.drop (l0 + 1), rfl, rfl, g7, hpd, sz (by rw [List.length_drop]; omega), ?_⟩
  have kk := tk_lst g7 (.lst (gs ++ ws.drop (l0 + 1)))
  have hfin : TreesIn (upd H6 pf (.lst (gs ++ ws.drop (l0 + 1)))) (gs ++ ws.drop (l0 + 1)) (ps.take f0 ++ L ++ ps.drop (l0 + 1)) := (g3.tk ((tk s8).trans kk)).append ((w5.drop (l0 + 1)).tk (((tk g1).trans (tk s8)).trans kk))
  have lfin := hfin.length
  rw [List.length_append, List.length_drop] at lfin
  refine ⟨_, i6, pf, _, _, rfl, upd_same, hfin, by omega, fun v H7 s9 hv => q.2 _ er v H7 (((s15.trans (same_mut (g1.trans s8) nf)).trans s9)) hv⟩
end UR
namespace UR
open PySem PySem.Spec PyProof.Rows L2
theorem sc_joined0 : FnScope ["tree", "chosen", "word", "parts", "touched", "inner", "index"] ["tree", "chosen"] (defScope (top 29)) := ⟨rfl, rfl, rfl, by decide +kernel, rfl, by decide +kernel, by decide +kernel⟩
set_option maxHeartbeats 8000000 in
theorem cal_joined0 {P : Program} {w : World} {K : PySem.W.Frag} {mg : Str → Option Value} {base : Heap}  (B : Bl mg) (D : DefAt K mg 29 "joined") (C_is_thing : Cal P w K mg base (1) "is_thing" ["tree"] sp_is_thing) (C_joined : Cal P w K mg base (0) "joined" ["tree", "chosen"] sp_none) (C_joined_any : Cal P w K mg base (0) "joined_any" ["parts", "chosen"] sp_none) (C_joined_row : Cal P w K mg base (0) "joined_row" ["parts", "chosen"] sp_none) (C_share : Cal P w K mg base (30) "share" ["tree", "chosen"] sp_share) :
    Cal P w K mg base (32) "joined" ["tree", "chosen"] (sp_joined 0) := by
  have sc := sc_joined0
  refine cal_of D sc (fun kV doc pm an cdv ct us hl => match us, hl with | [_, _], _ => rfl) (fun vs H Q E h => ?_) (fun f cdv A outer s H vs Q E hr h => ?_)
  · obtain ⟨v, c, T, S, rfl, hT, hok, hc, hk0, hd, q⟩ := h
    rfl
  obtain ⟨v, c, T, S, rfl, hT, hok, hc, hk0, hd, q⟩ := h
  refine ⟨_, (pss_cons (ps_if (PW.pt (pw_or (pt_val (pe_cal C_is_thing (hr.mono (by omega)) (by rfl) (pa_cons (pv 0) pa_nil))) (pw_or1 (pt_cmpR op_eq (pe_cal C_share (hr.mono (by omega)) (by rfl) (pa_cons (pv 0) (pa_cons (pv 1) pa_nil))) pe_str (nomark _))))) (pss_one (ps_ret (pv 0))) pss_nil)
    (pss_cons (ps_asg (pv 0) (pg_tupK K 2 rfl (pgs_cons (pg_name (i := 2) sc.nd rfl (Or.inl rfl) ) (pgs_cons (pg_name (i := 3) sc.nd rfl (Or.inr rfl) ) pgs_nil))))
    (pss_cons (ps_setLc (i := 4) (own := [("index", 6)]) rfl sc.nd rfl rfl (sw_true rfl rfl rfl (by decide +kernel)) (pi_range1 (by rfl) B.range (pa_cons (pe_callB (call_lenK K) (by rfl) B.len PySem.boot_len (pa_cons (pv 3) pa_nil)) pa_nil)) (blkOk_by (N := ["tree", "chosen", "word", "parts", "touched", "inner", "index"]) (sc := defScope (top 29)) (by decide +kernel)) (fun _ _ _ _ _ => (pg_name (i := 6) sc.nd rfl (Or.inl rfl))) (fun _ _ _ _ _ => (pts_one (pt_cmpR op_ne (pe_cal C_share (hr.mono (by omega)) (by rfl) (pa_cons (pe_ix (ix_tupK K) (pv 3) (pv 6) (fun _ _ => rfl)) (pa_cons (pv 1) pa_nil))) pe_str (nomark _)))) (fun _ _ _ _ _ => (pv 6)))
    (pss_cons (ps_if (pt_cmpR op_eq (pe_callB (call_lenK K) (by rfl) B.len PySem.boot_len (pa_cons (pv 4) pa_nil)) pe_int (nomark _)) (pss_cons (ps_set (i := 5) sc.nd rfl (Or.inl rfl) (pe_cal C_joined (hr.mono (by omega)) (by rfl) (pa_cons (pe_ix (ix_tupK K) (pv 3) (pe_ix (ix_listK K) (pv 4) pe_int (fun _ _ => rfl)) (fun _ _ => rfl)) (pa_cons (pv 1) pa_nil))))
      (pss_cons (ps_if (pt_cmpR op_isN (pv 5) pe_non (nomark _)) (pss_one (ps_ret pe_non)) pss_nil)
      (pss_one (ps_ret (pe_tup (pa_cons (pv 2) (pa_cons (pe_op (op_catAK K) (pe_op (op_catAK K) (pe_slice (sl_tupAK K) (pv 3) po_none (po_some (pe_ix (ix_listK K) (pv 4) pe_int (fun _ _ => rfl)))) (pe_tup (pa_cons (pv 5) pa_nil))) (pe_slice (sl_tupAK K) (pv 3) (po_some (pe_op op_add (pe_ix (ix_listK K) (pv 4) pe_int (fun _ _ => rfl)) pe_int)) po_none)) pa_nil))))))) pss_nil)
    (pss_cons (ps_if (pt_cmpR op_eq (pv 2) pe_str (nomark _)) (pss_one (ps_ret (pe_cal C_joined_any (hr.mono (by omega)) (by rfl) (pa_cons (pv 3) (pa_cons (pv 1) pa_nil))))) pss_nil)
    (pss_one (ps_ret (pe_cal C_joined_row (hr.mono (by omega)) (by rfl) (pa_cons (pv 3) (pa_cons (pv 1) pa_nil)))))))))), ?_⟩
  refine ⟨_, rfl, v, T, rfl, hT, _, rfl, ite2 (fun ct => iteT ?_) (fun ct => ?_)⟩
  · cases T with
    | thing t => exact ⟨_, rfl, q.2 (.thing t) rfl v H (Same.refl _) hT⟩
    | any ps => cases ct
    | row ps => cases ct
  · cases T with
    | thing t => exact absurd rfl ct
    | any ps => exact absurd hd (by show ¬ depthL ps + 1 ≤ 0; omega)
    | row ps => exact absurd hd (by show ¬ depthL ps + 1 ≤ 0; omega)
end UR
namespace UR
open PySem PySem.Spec PyProof.Rows L2
theorem sc_joined : FnScope ["tree", "chosen", "word", "parts", "touched", "inner", "index"] ["tree", "chosen"] (defScope (top 29)) := ⟨rfl, rfl, rfl, by decide +kernel, rfl, by decide +kernel, by decide +kernel⟩
set_option maxHeartbeats 8000000 in
theorem cal_joined {P : Program} {w : World} {K : PySem.W.Frag} {mg : Str → Option Value} {base : Heap} {k : Nat} (B : Bl mg) (D : DefAt K mg 29 "joined") (C_is_thing : Cal P w K mg base (1) "is_thing" ["tree"] sp_is_thing) (C_joined : Cal P w K mg base (3 * k + 32) "joined" ["tree", "chosen"] (sp_joined k)) (C_joined_any : Cal P w K mg base (2 * k + 33) "joined_any" ["parts", "chosen"] (sp_joined_any k)) (C_joined_row : Cal P w K mg base (2 * k + 33) "joined_row" ["parts", "chosen"] (sp_joined_row k)) (C_share : Cal P w K mg base (30) "share" ["tree", "chosen"] sp_share) :
    Cal P w K mg base (3 * k + 35) "joined" ["tree", "chosen"] (sp_joined (k + 1)) := by
  have sc := sc_joined
  refine cal_of D sc (fun kV doc pm an cdv ct us hl => match us, hl with | [_, _], _ => rfl) (fun vs H Q E h => ?_) (fun f cdv A outer s H vs Q E hr h => ?_)
  · obtain ⟨v, c, T, S, rfl, hT, hok, hc, hk0, hd, q⟩ := h
    rfl
  obtain ⟨v, c, T, S, rfl, hT, hok, hc, hk0, hd, q⟩ := h
  refine ⟨_, (pss_cons (ps_if (PW.pt (pw_or (pt_val (pe_cal C_is_thing (hr.mono (by omega)) (by rfl) (pa_cons (pv 0) pa_nil))) (pw_or1 (pt_cmpR op_eq (pe_cal C_share (hr.mono (by omega)) (by rfl) (pa_cons (pv 0) (pa_cons (pv 1) pa_nil))) pe_str (nomark _))))) (pss_one (ps_ret (pv 0))) pss_nil)
    (pss_cons (ps_asg (pv 0) (pg_tupK K 2 rfl (pgs_cons (pg_name (i := 2) sc.nd rfl (Or.inl rfl) ) (pgs_cons (pg_name (i := 3) sc.nd rfl (Or.inr rfl) ) pgs_nil))))
    (pss_cons (ps_setLc (i := 4) (own := [("index", 6)]) rfl sc.nd rfl rfl (sw_true rfl rfl rfl (by decide +kernel)) (pi_range1 (by rfl) B.range (pa_cons (pe_callB (call_lenK K) (by rfl) B.len PySem.boot_len (pa_cons (pv 3) pa_nil)) pa_nil)) (blkOk_by (N := ["tree", "chosen", "word", "parts", "touched", "inner", "index"]) (sc := defScope (top 29)) (by decide +kernel)) (fun _ _ _ _ _ => (pg_name (i := 6) sc.nd rfl (Or.inl rfl))) (fun _ _ _ _ _ => (pts_one (pt_cmpR op_ne (pe_cal C_share (hr.mono (by omega)) (by rfl) (pa_cons (pe_ix (ix_tupK K) (pv 3) (pv 6) (fun _ _ => rfl)) (pa_cons (pv 1) pa_nil))) pe_str (nomark _)))) (fun _ _ _ _ _ => (pv 6)))
    (pss_cons (ps_if (pt_cmpR op_eq (pe_callB (call_lenK K) (by rfl) B.len PySem.boot_len (pa_cons (pv 4) pa_nil)) pe_int (nomark _)) (pss_cons (ps_set (i := 5) sc.nd rfl (Or.inl rfl) (pe_cal C_joined (hr.mono (by omega)) (by rfl) (pa_cons (pe_ix (ix_tupK K) (pv 3) (pe_ix (ix_listK K) (pv 4) pe_int (fun _ _ => rfl)) (fun _ _ => rfl)) (pa_cons (pv 1) pa_nil))))
      (pss_cons (ps_if (pt_cmpR op_isN (pv 5) pe_non (nomark _)) (pss_one (ps_ret pe_non)) pss_nil)
      (pss_one (ps_ret (pe_tup (pa_cons (pv 2) (pa_cons (pe_op (op_catAK K) (pe_op (op_catAK K) (pe_slice (sl_tupAK K) (pv 3) po_none (po_some (pe_ix (ix_listK K) (pv 4) pe_int (fun _ _ => rfl)))) (pe_tup (pa_cons (pv 5) pa_nil))) (pe_slice (sl_tupAK K) (pv 3) (po_some (pe_op op_add (pe_ix (ix_listK K) (pv 4) pe_int (fun _ _ => rfl)) pe_int)) po_none)) pa_nil))))))) pss_nil)
    (pss_cons (ps_if (pt_cmpR op_eq (pv 2) pe_str (nomark _)) (pss_one (ps_ret (pe_cal C_joined_any (hr.mono (by omega)) (by rfl) (pa_cons (pv 3) (pa_cons (pv 1) pa_nil))))) pss_nil)
    (pss_one (ps_ret (pe_cal C_joined_row (hr.mono (by omega)) (by rfl) (pa_cons (pv 3) (pa_cons (pv 1) pa_nil)))))))))), ?_⟩
  refine ⟨_, rfl, v, T, rfl, hT, _, rfl, ite2 (fun ct => iteT ?_) (fun ct => ?_)⟩
  · cases T with
    | thing t => exact ⟨_, rfl, q.2 (.thing t) rfl v H (Same.refl _) hT⟩
    | any ps => cases ct
    | row ps => cases ct
  have ht : isThing T = false := by simpa using ct
  refine ⟨_, rfl, _, rfl, v, c, T, S, rfl, hT, hok, hc, fun H1 s1 => ⟨rfl, _, rfl, ite2 (fun d => ?_) (fun d => ?_)⟩⟩
  · have r2 : rank S T = 2 := (shV_inj (rank_le S T) (by decide : 2 ≤ 2)).mp (of_decide_eq_true d)
    exact ⟨_, rfl, q.2 T (joined_full r2) v H1 s1 (hT.tk (tk s1))⟩
  have r2 : ¬ rank S T = 2 := fun z => d (decide_eq_true ((shV_inj (rank_le S T) (by decide : 2 ≤ 2)).mpr z))
  obtain ⟨⟨a, b, ws, rfl, ha, hb, hws⟩, el, ed⟩ := treeP hT ht
  have hp : PsOk (partsOf T) := ⟨wfParts hok.1, by rw [← el]; exact hok.2⟩
  have hdp : depthL (partsOf T) ≤ k := by omega
  have lw := hws.length
  have k0 := hp.len
  refine ⟨_, rfl, a, _, rfl, SqT.of (s1 _ _ ha), rfl, _, _, rfl, _, _, rfl, rfl, ?_⟩
  -- touched
  refine ⟨_, rfl, b, ws, rfl, .inr (SqT.of (s1 _ _ hb)), _, rfl, by omega, by omega, fun D nD => ?_⟩
  refine lc_range (lo := 0) (LcInv H1 D fun i ys _ => ys = ((List.range i).filter fun i => decide (rank S ((partsOf T).getD i default) ≠ 0)).map nV) (lc_start nD rfl) (fun i H' hi g => ?_) (fun H2 g => ?_)
  · obtain ⟨g1, g2, ys, g3, g4, g5⟩ := g
    have hi2 : i < (partsOf T).length := by omega
    have ei : (0 : Int) + (i : Int) = (i : Int) := Int.zero_add _
    have s2 := s1.trans g2
    obtain ⟨x, hx⟩ : ∃ x, ws[i]? = some x := ⟨_, List.getElem?_eq_getElem (by omega)⟩
    obtain ⟨p, hpp, hxp⟩ := hws.get hx
    have hg : (partsOf T).getD i default = p := by rw [List.getD_eq_getElem?_getD, hpp]; rfl
    refine ⟨rfl, _, rfl, _, rfl, _, _, _, _, rfl, rfl, SqT.of (s2 _ _ hb), by rw [ei]; exact atI_nat hx, _, rfl, x, c, p, S, rfl, hxp.tk (tk s2), hp.part (List.mem_of_getElem? hpp), hc.tk (tk s2), fun H3 s3 => ⟨rfl, _, rfl, ?_⟩⟩
    by_cases z : rank S p = 0
    · have e : decide (shV (rank S p) = V.str "none") = true := decide_eq_true (by rw [z]; rfl)
      refine ite2 (fun d => absurd d (by rw [e]; decide)) (fun d => lc_skip g1 (g2.trans s3) (s3 _ _ g3) g4 ?_)
      rw [range_filter_succ, hg, if_neg (by simp [z]), List.append_nil]
      exact g5
    · have e : decide (shV (rank S p) = V.str "none") = false := decide_eq_false (fun y => z ((shV_inj (rank_le S _) (by decide : 0 ≤ 2)).mp y))
      refine ite2 (fun d => ⟨_, rfl, lc_put (by omega) g1 (g2.trans s3) (s3 _ _ g3) g4 ?_⟩) (fun d => absurd (by rw [e]; rfl) d)
      rw [range_filter_succ, hg, if_pos (by simp [z]), List.map_append, ← g5, ei]
      rfl
  obtain ⟨_, s2, ys, hD, _, g5⟩ := g
  have et : ys = (touched S (partsOf T)).map nV := by
    rw [g5, show ((ws.length : Int)).toNat = (partsOf T).length by omega]
    rfl
  subst et
  clear g5
  have s12 := s1.trans s2
  have t0 : touched S (partsOf T) ≠ [] := fun z => hk0 (rank_zero.mpr (by rw [el]; exact rank_any_zero z))
  refine ⟨_, rfl, D, _, rfl, .inl (SqL.of hD), rfl, _, rfl, ite2 (fun d1 => ?_) (fun d1 => ?_)⟩
  · have d2 : V.int (((touched S (partsOf T)).map nV).length : Int) = V.int 1 := of_decide_eq_true d1
    obtain ⟨t, e1⟩ : ∃ t, touched S (partsOf T) = [t] := List.length_eq_one_iff.mp (by
      have := V.int.inj d2
      rw [List.length_map] at this
      omega)
    rw [e1] at hD
    have je := joined_one (k := k) ht r2 e1
    obtain ⟨htl, hrt⟩ := mem_touched.mp (e1 ▸ List.mem_singleton.mpr rfl : t ∈ touched S (partsOf T))
    obtain ⟨x, hx⟩ : ∃ x, ws[t]? = some x := ⟨_, List.getElem?_eq_getElem (by omega)⟩
    obtain ⟨p, hpp, hxp⟩ := hws.get hx
    have hg : (partsOf T).getD t default = p := by rw [List.getD_eq_getElem?_getD, hpp]; rfl
    have ep : (partsOf T)[t] = p := by rw [List.getElem?_eq_getElem htl] at hpp; exact Option.some.inj hpp
    rw [ep] at hrt
    have pm := List.mem_of_getElem? hpp
    rw [hg] at je
    refine ⟨_, rfl, _, rfl, _, _, _, _, rfl, rfl, SqL.of hD, (at0 : atI [nV t] 0 = some (nV t)), _, _, _, _, rfl, rfl, SqT.of (s12 _ _ hb), atI_nat hx, _, rfl, x, c, p, S, rfl, hxp.tk (tk s12), hp.part pm, hc.tk (tk s12), hrt, part_depth hdp pm, fun en H3 s3 => ?_, fun U eU u H3 s3 hu => ?_⟩
    · rw [en] at je
      exact ⟨_, rfl, rfl, _, rfl, iteT (q.1 je H3 (s12.trans s3))⟩
    · rw [eU] at je
      have un : ¬ u = .non := fun z => by
        subst z
        cases U with
        | thing _ => exact absurd hu (by show ¬ V.non = V.int _; intro z; cases z)
        | any _ => obtain ⟨_, _, _, z, _⟩ := hu; cases z
        | row _ => obtain ⟨_, _, _, z, _⟩ := hu; cases z
      refine ⟨_, rfl, rfl, _, rfl, ite2 (fun z => absurd (of_decide_eq_true z) un) (fun _ => ?_)⟩
      have s13 := s12.trans s3
      refine ⟨_, rfl, _, rfl, _, rfl, _, _, _, _, rfl, rfl, SqL.of (s3 _ _ hD), (at0 : atI [nV t] 0 = some (nV t)), (t : Int), rfl, slA_take (s13 _ _ hb) t (fun p1 H4 s4 hp1 => ?_)⟩
      refine ⟨_, rfl, by show 1 ≤ sizeLine; decide, fun p2 np2 => ?_⟩
      have s5 := same_new np2 (.tup [u])
      refine catA (s5 _ _ hp1) upd_same (by rw [List.length_take]; simp; omega) (fun p3 H5 s6 hp3 => ?_)
      have s15 := s13.trans (s4.trans (s5.trans s6))
      have hD5 := (s4.trans (s5.trans s6)) _ _ (s3 _ _ hD)
      have e2 : (t : Int) + 1 = ((t + 1 : Nat) : Int) := by omega
      refine ⟨_, rfl, _, rfl, _, _, _, _, rfl, rfl, SqL.of hD5, (at0 : atI [nV t] 0 = some (nV t)), _, _, rfl, rfl, ((t + 1 : Nat) : Int), congrArg V.int e2, ?_⟩
      dsimp only [tNoPart]
      refine slA_drop (s15 _ _ hb) (t + 1) (fun p4 H6 s7 hp4 => ?_)
      refine catA (s7 _ _ hp3) hp4 (by rw [List.length_append, List.length_take, List.length_drop]; simp; omega) (fun p5 H7 s8 hp5 => ?_)
      refine ⟨by show 2 ≤ sizeLine; decide, fun p6 np6 => ?_⟩
      have s9 := same_new np6 (.tup [.str (wordOf T), .ref p5])
      have sx := s15.trans (s7.trans (s8.trans s9))
      refine q.2 _ je _ _ sx (treeP_mk ht ⟨p6, p5, _, rfl, upd_same, s9 _ _ hp5, ?_⟩)
      have es : (partsOf T).set t U = (partsOf T).take t ++ [U] ++ (partsOf T).drop (t + 1) := by
        rw [List.set_eq_take_append_cons_drop, if_pos htl, List.append_assoc]
        rfl
      rw [es]
      have w7 := hws.tk (tk sx)
      exact ((w7.take t).append (.one (hu.tk ((tk s4).trans ((tk s5).trans ((tk s6).trans ((tk s7).trans ((tk s8).trans (tk s9))))))))).append (w7.drop (t + 1))
  · have d2 : ∀ t, touched S (partsOf T) ≠ [t] := fun t z => d1 (decide_eq_true (by rw [z]; rfl))
    refine ⟨_, rfl, rfl, _, rfl, ?_⟩
    cases T with
    | thing t => cases ht
    | any ps =>
      rw [joined_anyE r2 d2] at q
      refine iteT ⟨_, rfl, _, rfl, b, ws, ps, c, S, rfl, s12 _ _ hb, hws.tk (tk s12), hp, hc.tk (tk s12), hdp, fun e H' s => q.1 e H' (s12.trans s), fun U e v H' s => q.2 U e v H' (s12.trans s)⟩
    | row ps =>
      rw [joined_rowE r2 d2] at q
      refine iteF ⟨_, rfl, _, rfl, b, ws, ps, c, S, rfl, s12 _ _ hb, hws.tk (tk s12), hp, hc.tk (tk s12), hdp, t0, fun e H' s => q.1 e H' (s12.trans s), fun U e v H' s => q.2 U e v H' (s12.trans s)⟩
end UR
namespace UR
open PySem PySem.Spec PyProof.Rows L2
theorem sc_reduced_by : FnScope ["tree", "chosen", "found"] ["tree", "chosen"] (defScope (top 30)) := ⟨rfl, rfl, rfl, by decide +kernel, rfl, by decide +kernel, by decide +kernel⟩
set_option maxHeartbeats 8000000 in
theorem cal_reduced_by {P : Program} {w : World} {K : PySem.W.Frag} {mg : Str → Option Value} {base : Heap}  (B : Bl mg) (D : DefAt K mg 30 "reduced_by") (C_joined : Cal P w K mg base (24 + 92) "joined" ["tree", "chosen"] (sp_joined 24)) (C_normalized : Cal P w K mg base (24 + 31) "normalized" ["tree"] (sp_normalized 24)) :
    Cal P w K mg base (120) "reduced_by" ["tree", "chosen"] sp_reduced_by := by
  have sc := sc_reduced_by
  refine cal_of D sc (fun kV doc pm an cdv ct us hl => match us, hl with | [_, _], _ => rfl) (fun vs H Q E h => ?_) (fun f cdv A outer s H vs Q E hr h => ?_)
  · obtain ⟨v, c, T, S, rfl, hT, hok, hc, hrk, q1, q2⟩ := h
    rfl
  obtain ⟨v, c, T, S, rfl, hT, hok, hc, hrk, q1, q2⟩ := h
  refine ⟨_, (pss_cons (ps_if (pt_cmpR op_lt (pe_callB (call_lenK K) (by rfl) B.len PySem.boot_len (pa_cons (pv 1) pa_nil)) pe_int (nomark _)) (pss_one (ps_ret (pe_cal C_normalized (hr.mono (by omega)) (by rfl) (pa_cons (pv 0) pa_nil)))) pss_nil)
    (pss_cons (ps_set (i := 2) sc.nd rfl (Or.inl rfl) (pe_cal C_joined (hr.mono (by omega)) (by rfl) (pa_cons (pv 0) (pa_cons (pv 1) pa_nil))))
    (pss_cons (ps_if (pt_cmpR op_isN (pv 2) pe_non (nomark _)) (pss_one (ps_ret pe_non)) pss_nil)
    (pss_one (ps_ret (pe_cal C_normalized (hr.mono (by omega)) (by rfl) (pa_cons (pv 2) pa_nil))))))), ?_⟩
  obtain ⟨a, rfl, ha⟩ := id hc
  refine ⟨_, rfl, a, _, rfl, .inr (SqT.of ha), _, _, rfl, rfl, _, rfl, ite2 (fun d => ?_) (fun d => ?_)⟩
  · have d1 : (((S.map nV).length : Nat) : Int) < 2 := of_decide_eq_true d
    rw [List.length_map] at d1
    have d2 : S.length < 2 := by omega
    exact ⟨_, rfl, v, T, rfl, hT, (TOk.depth hok), hok, fun U hU => q1 d2 U hU⟩
  have d2 : 2 ≤ S.length := by
    refine Classical.byContradiction fun z => d (decide_eq_true ?_)
    show (((S.map nV).length : Nat) : Int) < 2
    rw [List.length_map]
    omega
  obtain ⟨q3, q4⟩ := q2 d2
  refine ⟨_, rfl, _, rfl, v, .ref a, T, S, rfl, hT, hok, hc, hrk d2, Nat.le_of_lt (TOk.depth hok), fun en H1 s1 => ?_, fun U eU u H1 s1 hu => ?_⟩
  · exact ⟨_, rfl, rfl, _, rfl, iteT (q3 en H1 s1)⟩
  · obtain ⟨j1, j2⟩ := joined_struct hok.1 (hrk d2) eU
    have tok : TOk U := ⟨j2, by rw [j1.length_eq]; exact hok.2⟩
    refine ⟨_, rfl, rfl, _, rfl, ite2 (fun z => absurd (of_decide_eq_true z) (tree_not_non hu)) (fun _ => ?_)⟩
    exact ⟨_, rfl, u, U, rfl, hu, (TOk.depth tok), tok, fun U' hU' w H2 s2 hw => q4 U U' eU hU' w H2 (s1.trans s2) hw⟩
end UR
namespace UR
open PySem PySem.Spec PyProof.Rows L2
theorem sc_reduced_by_all : FnScope ["tree", "sets", "chosen"] ["tree", "sets"] (defScope (top 31)) := ⟨rfl, rfl, rfl, by decide +kernel, rfl, by decide +kernel, by decide +kernel⟩
set_option maxHeartbeats 8000000 in
theorem cal_reduced_by_all {P : Program} {w : World} {K : PySem.W.Frag} {mg : Str → Option Value} {base : Heap}  (B : Bl mg) (D : DefAt K mg 31 "reduced_by_all") (C_reduced_by : Cal P w K mg base (120) "reduced_by" ["tree", "chosen"] sp_reduced_by) :
    Cal P w K mg base (121) "reduced_by_all" ["tree", "sets"] sp_reduced_by_all := by
  have sc := sc_reduced_by_all
  refine cal_of D sc (fun kV doc pm an cdv ct us hl => match us, hl with | [_, _], _ => rfl) (fun vs H Q E h => ?_) (fun f cdv A outer s H vs Q E hr h => ?_)
  · obtain ⟨n, v, c, T, sets, rfl, hT, hS, hok, hF, q⟩ := h
    rfl
  obtain ⟨n, v, c, T, sets, rfl, hT, hS, hok, hF, q⟩ := h
  refine ⟨_, (pss_cons (ps_for PassesOwn.never rfl (pi_tupK K (pv 1)) (pg_name (i := 2) sc.nd rfl (Or.inl rfl)) (pss_cons (ps_set (i := 0) sc.nd rfl (Or.inl rfl) (pe_cal C_reduced_by (hr.mono (by omega)) (by rfl) (pa_cons (pv 0) (pa_cons (pv 2) pa_nil))))
      (pss_one (ps_if (pt_cmpR op_isN (pv 0) pe_non (nomark _)) (pss_one (ps_ret pe_non)) pss_nil))))
    (pss_one (ps_ret (pv 0)))), ?_⟩
  obtain ⟨a, ws, rfl, ha, hws⟩ := hS
  have lw := hws.length
  refine ⟨_, rfl, a, rfl, ⟨_, SqT.of ha⟩, ?_⟩
  refine for_tup (xs := ws) (fun i σ H' => Same H H' ∧ σ.length = 3 ∧ ∃ u U, σ[0]? = some (some u) ∧ TreeIn H' u U ∧ TreeFor n (sets.take i) U) ⟨Same.refl _, rfl, v, T, rfl, hT, hF⟩ (fun i σ H' _ p => SqT.of (p.1 _ _ ha)) (fun i x σ H' hi p => ?_) (fun σ H' p => ?_)
  · obtain ⟨s1, p2, u, U, p3, p4, p5⟩ := p
    obtain ⟨S, hS, hx⟩ := hws.get hi
    have sn := hok.2.2.2 S (List.mem_of_getElem? hS)
    have et : sets.take (i + 1) = sets.take i ++ [S] := by rw [List.take_add_one, hS]; rfl
    have tok : TOk U := ⟨p5.2.1, by rw [p5.1.length_eq, List.length_range]; exact hok.2.1⟩
    have ne : 2 ≤ S.length → S ≠ [] := fun h2 z => by rw [z] at h2; simp at h2
    have stp := fun h2 => p5.step (Nat.le_of_lt (TOk.depth tok)) (S := S) sn.2 (ne h2)
    have on : ∀ w W H2, Same H' H2 → TreeIn H2 w W → TreeFor n (sets.take (i + 1)) W → w ≠ V.non → Same H H2 ∧ ((σ.set 2 (some x)).set 0 (some w)).length = 3 ∧ ∃ u U, ((σ.set 2 (some x)).set 0 (some w))[0]? = some (some u) ∧ TreeIn H2 u U ∧ TreeFor n (sets.take (i + 1)) U :=
      fun w W H2 s2 hw hW _ => ⟨s1.trans s2, by rw [List.length_set, List.length_set]; exact p2, w, W, setS (by rw [List.length_set]; omega), hw, hW⟩
    refine ⟨_, getS p3 (by decide), _, setS (by omega), u, x, U, S, rfl, p4, tok, hx.tk (tk s1), fun h2 => ?_, fun h1 W hW w H2 s2 hw => ?_, fun h2 => ⟨fun en H2 s2 => ?_, fun W W' eW hW w H2 s2 hw => ?_⟩⟩
    · obtain ⟨y, hy⟩ := List.exists_mem_of_ne_nil S (ne h2)
      exact rank_pos (p5.1.mem_iff.mpr (List.mem_range.mpr (sn.2 y hy))) hy
    · refine ⟨_, setS (by rw [List.length_set]; omega), rfl, _, rfl, ite2 (fun z => absurd (of_decide_eq_true z) (tree_not_non hw)) (fun _ => ?_)⟩
      refine on w W H2 s2 hw ?_ (tree_not_non hw)
      rw [et]
      exact (p5.small h1).alike hW
    · refine ⟨_, setS (by rw [List.length_set]; omega), rfl, _, rfl, iteT ?_⟩
      refine q.1 ?_ H2 (s1.trans s2)
      have := ((stp h2).2 en).more (more := sets.drop (i + 1))
      rw [← et, List.take_append_drop] at this
      exact this
    · refine ⟨_, setS (by rw [List.length_set]; omega), rfl, _, rfl, ite2 (fun z => absurd (of_decide_eq_true z) (tree_not_non hw)) (fun _ => ?_)⟩
      refine on w W' H2 s2 hw ?_ (tree_not_non hw)
      rw [et]
      exact ((stp h2).1 W eW).alike hW
  · obtain ⟨s1, p2, u, U, p3, p4, p5⟩ := p
    rw [lw, List.take_length] at p5
    exact ⟨_, p3, q.2 U p5 u H' s1 p4⟩
end UR
namespace UR
open PySem PySem.Spec PyProof.Rows L2
theorem sc_tree_of : FnScope ["n", "sets"] ["n", "sets"] (defScope (top 32)) := ⟨rfl, rfl, rfl, by decide +kernel, rfl, by decide +kernel, by decide +kernel⟩
set_option maxHeartbeats 8000000 in
theorem cal_tree_of {P : Program} {w : World} {K : PySem.W.Frag} {mg : Str → Option Value} {base : Heap}  (B : Bl mg) (D : DefAt K mg 32 "tree_of") (C_check_table : Cal P w K mg base (3) "check_table" ["n", "sets"] sp_check_table) (C_plain_tree : Cal P w K mg base (3) "plain_tree" ["n"] sp_plain_tree) (C_reduced_by_all : Cal P w K mg base (121) "reduced_by_all" ["tree", "sets"] sp_reduced_by_all) :
    Cal P w K mg base (122) "tree_of" ["n", "sets"] sp_tree_of := by
  have sc := sc_tree_of
  refine cal_of D sc (fun kV doc pm an cdv ct us hl => match us, hl with | [_, _], _ => rfl) (fun vs H Q E h => ?_) (fun f cdv A outer s H vs Q E hr h => ?_)
  · obtain ⟨n, c, sets, rfl, hS, hok, q⟩ := h
    rfl
  obtain ⟨n, c, sets, rfl, hS, hok, q⟩ := h
  refine ⟨_, (pss_cons (ps_expr (pe_cal C_check_table (hr.mono (by omega)) (by rfl) (pa_cons (pv 0) (pa_cons (pv 1) pa_nil))))
    (pss_one (ps_ret (pe_cal C_reduced_by_all (hr.mono (by omega)) (by rfl) (pa_cons (pe_cal C_plain_tree (hr.mono (by omega)) (by rfl) (pa_cons (pv 0) pa_nil)) (pa_cons (pv 1) pa_nil)))))), ?_⟩
  refine ⟨_, rfl, _, rfl, n, c, sets, rfl, hS, hok, ?_⟩
  refine ⟨_, rfl, n, rfl, hok.1, hok.2.1, fun v H1 s1 hv => ⟨_, rfl, n, v, c, makeAny (things n), sets, rfl, hv, hS.tk (tk s1), hok, plain_for hok.1, fun no H2 s2 => q.1 no H2 (s1.trans s2), fun T hT u H2 s2 hu => q.2 T hT u H2 (s1.trans s2) hu⟩⟩
end UR
namespace UR
open PySem PySem.Spec PyProof.Rows L2
theorem sc_share_a_thing : FnScope ["one", "other", "thing"] ["one", "other"] (defScope (top 34)) := ⟨rfl, rfl, rfl, by decide +kernel, rfl, by decide +kernel, by decide +kernel⟩
set_option maxHeartbeats 8000000 in
theorem cal_share_a_thing {P : Program} {w : World} {K : PySem.W.Frag} {mg : Str → Option Value} {base : Heap}  (B : Bl mg) (D : DefAt K mg 34 "share_a_thing")  :
    Cal P w K mg base (1) "share_a_thing" ["one", "other"] sp_share_a_thing := by
  have sc := sc_share_a_thing
  refine cal_of D sc (fun kV doc pm an cdv ct us hl => match us, hl with | [_, _], _ => rfl) (fun vs H Q E h => ?_) (fun f cdv A outer s H vs Q E hr h => ?_)
  · obtain ⟨v, c, S, T, rfl, ⟨a, rfl, ha⟩, ⟨b, rfl, hb⟩, hl, q⟩ := h
    rfl
  obtain ⟨v, c, S, T, rfl, ⟨a, rfl, ha⟩, ⟨b, rfl, hb⟩, hl, q⟩ := h
  refine ⟨_, (pss_one (ps_ret (pe_callB (cr_anyK K rfl) (by rfl) B.any (by decide +kernel) (pa_cons (pe_lc (own := [("thing", 2)]) rfl sc.nd (pi_tupK K (pv 0)) (blkOk_by (N := ["one", "other", "thing"]) (sc := defScope (top 34)) (by decide +kernel)) (fun _ _ _ _ _ => (pg_name (i := 2) sc.nd rfl (Or.inl rfl))) (fun _ _ _ _ _ => pts_nil) (fun _ _ _ _ _ => (pe_cmpR (op_in_seqK K) (pv 2) (pv 1) (by with_unfolding_all rfl)))) pa_nil)))), ?_⟩
  refine ⟨_, rfl, a, rfl, ⟨_, SqT.of ha⟩, fun D nD => ?_⟩
  refine lc_tup (K := K) (a := a) (xs := S.map nV) (LcInv H D fun i ys _ => ys = (S.take i).map fun x => V.bl (decide (x ∈ T))) (lc_start nD rfl) (fun i H' _ g => SqT.of (g.2.1 _ _ ha)) (fun i x H' hi g => ?_) (fun H1 g => ?_)
  · obtain ⟨g1, g2, ys, g3, g4, g5⟩ := g
    obtain ⟨t, ht, rfl⟩ := map_get hi
    have hi2 : i < 100 := by
      have := (List.getElem?_eq_some_iff.mp ht).1
      omega
    refine ⟨rfl, tyes ⟨_, rfl, _, rfl, b, T.map nV, rfl, .inr (SqT.of (g2 _ _ hb)), rfl, flat_nV T, ?_⟩⟩
    refine lc_put (by omega) g1 g2 g3 g4 ?_
    rw [List.take_add_one, ht, List.map_append, ← g5]
    show ys ++ [V.bl (inV (nV t) (T.map nV))] = _
    rw [inV_nV]
    rfl
  obtain ⟨g1, g2, ys, g3, g4, g5⟩ := g
  rw [List.length_map, List.take_length] at g5
  subst g5
  refine ⟨D, S.map fun x => decide (x ∈ T), rfl, SqL.of (by rw [g3, List.map_map]; rfl), ?_⟩
  have e : (S.map fun x => decide (x ∈ T)).any id = decide (Meet S T) := by
    rw [List.any_map]
    by_cases z : Meet S T
    · rw [decide_eq_true z]
      obtain ⟨t, t1, t2⟩ := z
      exact List.any_eq_true.mpr ⟨t, t1, decide_eq_true t2⟩
    · rw [decide_eq_false z]
      refine List.any_eq_false.mpr fun t t1 t2 => z ⟨t, t1, of_decide_eq_true t2⟩
  rw [e]
  exact q H1 g2
end UR
namespace UR
open PySem PySem.Spec PyProof.Rows L2
theorem sc_chain_for : FnScope ["sets", "start", "goal", "left_out", "usable", "chains", "seen", "at", "last", "index", "chain"] ["sets", "start", "goal", "left_out"] (defScope (top 35)) := ⟨rfl, rfl, rfl, by decide +kernel, rfl, by decide +kernel, by decide +kernel⟩
set_option maxHeartbeats 8000000 in
theorem cal_chain_for {P : Program} {w : World} {K : PySem.W.Frag} {mg : Str → Option Value} {base : Heap}  (B : Bl mg) (D : DefAt K mg 35 "chain_for") (C_share_a_thing : Cal P w K mg base (1) "share_a_thing" ["one", "other"] sp_share_a_thing) :
    Cal P w K mg base (2) "chain_for" ["sets", "start", "goal", "left_out"] sp_chain_for := by
  have sc := sc_chain_for
  refine cal_of D sc (fun kV doc pm an cdv ct us hl => match us, hl with | [_, _, _, _], _ => rfl) (fun vs H Q E h => ?_) (fun f cdv A outer s H vs Q E hr h => ?_)
  · obtain ⟨n, v, sets, a, b, c, rfl, hS, hok, hab, q1, q2⟩ := h
    rfl
  obtain ⟨n, v, sets, a, b, c, rfl, hS, hok, hab, q1, q2⟩ := h
  refine ⟨_, (pss_cons (ps_setLc (i := 4) (own := [("index", 9)]) rfl sc.nd rfl rfl (sw_true rfl rfl rfl (by decide +kernel)) (pi_range1 (by rfl) B.range (pa_cons (pe_callB (call_lenK K) (by rfl) B.len PySem.boot_len (pa_cons (pv 0) pa_nil)) pa_nil)) (blkOk_by (N := ["sets", "start", "goal", "left_out", "usable", "chains", "seen", "at", "last", "index", "chain"]) (sc := defScope (top 35)) (by decide +kernel)) (fun _ _ _ _ _ => (pg_name (i := 9) sc.nd rfl (Or.inl rfl))) (fun _ _ _ _ _ => (pts_one (pt_cmpR (op_notIn_seqK K) (pv 3) (pe_ix (ix_tupK K) (pv 0) (pv 9) (fun _ _ => rfl)) (by with_unfolding_all rfl)))) (fun _ _ _ _ _ => (pv 9)))
    (pss_cons (ps_setLc (i := 5) (own := [("index", 9)]) rfl sc.nd rfl rfl (sw_true rfl rfl rfl (by decide +kernel)) (pi_listK K (pv 4)) (blkOk_by (N := ["sets", "start", "goal", "left_out", "usable", "chains", "seen", "at", "last", "index", "chain"]) (sc := defScope (top 35)) (by decide +kernel)) (fun _ _ _ _ _ => (pg_name (i := 9) sc.nd rfl (Or.inl rfl))) (fun _ _ _ _ _ => (pts_one (pt_cmpR (op_in_seqK K) (pv 1) (pe_ix (ix_tupK K) (pv 0) (pv 9) (fun _ _ => rfl)) (by with_unfolding_all rfl)))) (fun _ _ _ _ _ => (pe_tup (pa_cons (pv 9) pa_nil))))
    (pss_cons (ps_setDc (i := 6) (own := [("chain", 10)]) rfl sc.nd rfl rfl (sw_trueD rfl rfl rfl (by decide +kernel)) (pi_listK K (pv 5)) (blkOk_by (N := ["sets", "start", "goal", "left_out", "usable", "chains", "seen", "at", "last", "index", "chain"]) (sc := defScope (top 35)) (by decide +kernel)) (fun _ _ _ _ _ => (pg_name (i := 10) sc.nd rfl (Or.inl rfl))) (fun _ _ _ _ _ => pts_nil) (fun _ _ _ _ _ => (pe_ix (ix_tupK K) (pv 10) pe_int (fun _ _ => rfl))) (fun _ _ _ _ _ => pe_bl))
    (pss_cons (ps_set (i := 7) sc.nd rfl (Or.inl rfl) pe_int)
    (pss_cons (ps_while PassesOwn.never (pt_cmpR op_lt (pv 7) (pe_callB (call_lenK K) (by rfl) B.len PySem.boot_len (pa_cons (pv 5) pa_nil)) (nomark _)) (pss_cons (ps_set (i := 8) sc.nd rfl (Or.inl rfl) (pe_ix (ix_tupK K) (pe_ix (ix_listK K) (pv 5) (pv 7) (fun _ _ => rfl)) (pe_un un_neg pe_int) (fun _ _ => rfl)))
      (pss_cons (ps_if (pt_cmpR (op_in_seqK K) (pv 2) (pe_ix (ix_tupK K) (pv 0) (pv 8) (fun _ _ => rfl)) (by with_unfolding_all rfl)) (pss_one (ps_ret (pe_ix (ix_listK K) (pv 5) (pv 7) (fun _ _ => rfl)))) pss_nil)
      (pss_cons (ps_for PassesOwn.never rfl (pi_listK K (pv 4)) (pg_name (i := 9) sc.nd rfl (Or.inl rfl)) (pss_one (ps_if (PW.pt (pw_and (pt_cmp (pc_dnotin (hu_of hr) (pv 9) (pv 6))) (pw_and1 (pt_val (pe_cal C_share_a_thing (hr.mono (by omega)) (by rfl) (pa_cons (pe_ix (ix_tupK K) (pv 0) (pv 8) (fun _ _ => rfl)) (pa_cons (pe_ix (ix_tupK K) (pv 0) (pv 9) (fun _ _ => rfl)) pa_nil))))))) (pss_cons (ps_dput (hu_of hr) (pv 6) (pv 9) pe_bl rfl)
          (pss_one (ps_expr (pe_bm PySem.F.plainAttrs_list PySem.F.slot_list_append PySem.F.type_list_append mt_append (pv 5) (pa_cons (pe_op (op_catAK K) (pe_ix (ix_listK K) (pv 5) (pv 7) (fun _ _ => rfl)) (pe_tup (pa_cons (pv 9) pa_nil))) pa_nil))))) pss_nil)))
      (pss_one (ps_aug (i := 7) sc.nd rfl (Or.inl rfl) pe_int ip_add))))))
    (pss_one (ps_ret pe_non))))))), ?_⟩
  obtain ⟨t, ws, rfl, ht, hws⟩ := id hS
  have lw := hws.length
  have l8 := hok.2.2.1
  -- usable
  refine ⟨_, rfl, t, ws, rfl, .inr (SqT.of ht), _, rfl, by omega, by omega, fun U nU => ?_⟩
  refine lc_range (lo := 0) (LcInv H U fun i ys _ => ys = ((List.range i).filter fun i => decide (c ∉ st sets i)).map nV) (lc_start nU rfl) (fun i H' hi g => ?_) (fun H1 g => ?_)
  · obtain ⟨g1, g2, ys, g3, g4, g5⟩ := g
    have hi2 : i < sets.length := by omega
    rw [Int.zero_add]
    obtain ⟨y, w, x⟩ := tabAt hws hi2
    refine ⟨rfl, _, rfl, _, rfl, _, rfl, _, _, _, _, rfl, rfl, SqT.of (g2 _ _ ht), atI_nat w, y, _, rfl, .inr (SqT.of (g2 _ _ x)), rfl, flat_nV _, _, rfl, ?_⟩
    rw [inV_nV, if_pos rfl]
    by_cases z : c ∈ st sets i
    · refine ite2 (fun d => absurd d (by rw [decide_eq_true z]; decide)) (fun d => lc_skip g1 g2 g3 g4 ?_)
      rw [range_filter_succ, if_neg (by simp [z]), List.append_nil]
      exact g5
    · refine ite2 (fun d => ⟨_, rfl, lc_put (by omega) g1 g2 g3 g4 ?_⟩) (fun d => absurd (by rw [decide_eq_false z]; rfl) d)
      rw [range_filter_succ, if_pos (by simp [z]), List.map_append, ← g5]
      rfl
  obtain ⟨_, s1, ys, hU, _, g5⟩ := g
  have eu : ys = (usable sets c).map nV := by
    rw [g5, show ((ws.length : Int)).toNat = sets.length by omega]
    rfl
  subst eu
  clear g5
  have ul : (usable sets c).length ≤ 8 := by
    have := List.length_filter_le (fun i => decide (c ∉ st sets i)) (List.range sets.length)
    rw [List.length_range] at this
    unfold usable
    omega
  -- chains
  refine ⟨_, rfl, U, rfl, ⟨_, SqL.of hU⟩, fun C nC => ?_⟩
  refine lc_list (K := K) (a := U) (xs := (usable sets c).map nV) (LcInv H1 C fun i ys H' => All2 (SetIn H') ys ((((usable sets c).take i).filter (fun i => decide (a ∈ st sets i))).map fun i => [i])) (lc_start nC .nil) (fun i H' _ g => SqL.of (g.2.1 _ _ hU)) (fun i x H' hi g => ?_) (fun H2 g => ?_)
  · obtain ⟨g1, g2, ys, g3, g4, g5⟩ := g
    obtain ⟨j, hj, rfl⟩ := map_get hi
    have hi2 : i < 8 := by
      have := (List.getElem?_eq_some_iff.mp hj).1
      omega
    obtain ⟨y, w, x⟩ := tabAt hws (usable_lt (List.mem_of_getElem? hj))
    have s2 := s1.trans g2
    refine ⟨rfl, _, rfl, _, rfl, _, rfl, _, _, _, _, rfl, rfl, SqT.of (s2 _ _ ht), atI_nat w, y, _, rfl, .inr (SqT.of (s2 _ _ x)), rfl, flat_nV _, _, rfl, ?_⟩
    rw [inV_nV, if_neg (by decide)]
    refine ite2 (fun d => ?_) (fun d => lc_skip g1 g2 g3 g4 ?_)
    · refine ⟨_, rfl, by show 1 ≤ sizeLine; decide, fun p np => ?_⟩
      have s3 := same_new np (.tup [nV j])
      have kk := tk_lst (s3 _ _ g3) (.lst (ys ++ [.ref p]))
      refine lc_put (by omega) g1 (g2.trans s3) (s3 _ _ g3) g4 ?_
      rw [filter_take hj, if_pos d, List.map_append]
      exact (g5.imp fun _ _ h => h.tk ((tk s3).trans kk)).snoc ⟨p, rfl, kk _ _ upd_same⟩
    · rw [filter_take hj, if_neg d, List.append_nil]
      exact g5
  obtain ⟨_, s2, cs, hC, _, g5⟩ := g
  rw [List.length_map, List.take_length] at g5
  have one : ∀ ch ∈ ((usable sets c).filter (fun i => decide (a ∈ st sets i))).map (fun i => [i]), ch.headD 0 = lastOf ch := fun ch h => by
    obtain ⟨i, _, rfl⟩ := List.mem_map.mp h
    rfl
  have lens : ∀ ch ∈ ((usable sets c).filter (fun i => decide (a ∈ st sets i))).map (fun i => [i]), ch.length ≤ (((usable sets c).filter (fun i => decide (a ∈ st sets i))).map (fun i => [i])).length := fun ch h => by
    have h0 := List.length_pos_of_mem h
    obtain ⟨i, _, rfl⟩ := List.mem_map.mp h
    exact h0
  have sch := search_start (sets := sets) (a := a) (c := c)
  generalize ((usable sets c).filter (fun i => decide (a ∈ st sets i))).map (fun i => [i]) = chs at g5 sch one lens
  have lcs := g5.length
  have sh := sch.short
  -- seen
  refine ⟨_, rfl, C, rfl, ⟨_, SqL.of hC⟩, fun S nS => ?_⟩
  refine dc_list (K := K) (a := C) (xs := cs) (fun i H' => Same H2 H' ∧ ∃ kvs, H' S = some (.dK kvs) ∧ kvs.length ≤ i ∧ SeenIs kvs ((chs.take i).map lastOf)) ⟨same_new nS _, [], upd_same, Nat.le_refl _, SeenIs.nil⟩ (fun i H' _ g => SqL.of (g.1 _ _ hC)) (fun i x H' hi g => ?_) (fun H3 g => ?_)
  · obtain ⟨g1, kvs, g2, g3, g4⟩ := g
    obtain ⟨ch, hch, z, rfl, hx⟩ := g5.get hi
    have chm := List.mem_of_getElem? hch
    have hi2 : i < 8 := by
      have := (List.getElem?_eq_some_iff.mp hch).1
      omega
    have chb := sch.each ch chm
    have hx1 := g1 _ _ hx
    refine ⟨rfl, tyes ⟨_, rfl, _, _, _, _, rfl, rfl, SqT.of hx1, atI_nat (j := 0) (head_nV chb.ne), kvs, Sum.inl ((ch.headD 0 : Nat) : Int), rfl, g2, szl (by omega), same_mut g1 nS, _, upd_same, by have := length_putK kvs (Sum.inl ((ch.headD 0 : Nat) : Int)) (V.bl true); omega, ?_⟩⟩
    rw [List.take_add_one, hch, List.map_append, one ch chm]
    exact g4.put _ _
  obtain ⟨s3, kvs, hSd, hkl, hseen⟩ := g
  rw [lcs] at hkl
  rw [lcs, List.take_length] at hseen
  have hU2 := s2 _ _ hU
  have nCH : H C = none := s1.free nC
  have nSH : H S = none := (s1.trans s2).free nS
  have UC : U ≠ C := fun e => by rw [e, nC] at hU; cases hU
  have US : U ≠ S := fun e => by rw [e, nS] at hU2; cases hU2
  have CS : C ≠ S := fun e => by rw [e, nS] at hC; cases hC
  have start : ChHeap H U C S sets a c cs chs kvs H3 := ⟨(s1.trans s2).trans s3, s3 _ _ hU2, s3 _ _ hC, g5.imp fun _ _ q => q.tk (tk s3), hSd, hkl, hseen, sch, lens⟩
  clear hseen hkl hSd g5 sch one lens lcs sh hC hU hU2
  -- the search
  refine ⟨fun m σ H' => ∃ at' chs cs kvs, m + at' = sets.length ∧ at' ≤ chs.length ∧ ChSlots σ t U C S b at' ∧ ChHeap H U C S sets a c cs chs kvs H' ∧ ∀ ch ∈ chs.take at', Done sets b c chs ch,
    ⟨sets.length, 0, chs, cs, kvs, rfl, Nat.zero_le _, ⟨rfl, rfl, rfl, rfl, rfl, rfl, rfl⟩, start, fun ch h => absurd h (by simp)⟩, fun m σ H' g => ?_⟩
  clear start
  obtain ⟨at', chs, cs, kvs, gm, ga, gs, gh, gd⟩ := g
  have lcs := gh.each.length
  have sh := gh.search.short
  refine ⟨_, gs.s7, _, gs.s5, C, _, rfl, .inl (SqL.of gh.ch), _, _, rfl, rfl, _, rfl, ?_⟩
  by_cases d : at' < chs.length
  case neg =>
    refine ite2 (fun z => absurd (of_decide_eq_true z) (by omega)) (fun _ => ?_)
    have e : at' = chs.length := by omega
    subst e
    rw [List.take_length] at gd
    exact q1 (fun V => search_none gh.search gd hab) H' gh.same
  refine ite2 (fun _ => ?_) (fun z => absurd (decide_eq_true (by omega)) z)
  refine ⟨_, fun σ' H'' h => h, ?_⟩
  obtain ⟨ch, hch⟩ : ∃ ch, chs[at']? = some ch := ⟨_, List.getElem?_eq_getElem d⟩
  obtain ⟨x, hx, hxs⟩ := gh.each.getR hch
  obtain ⟨z, rfl, hz⟩ := id hxs
  have chm := List.mem_of_getElem? hch
  have chb := gh.search.each ch chm
  have lu := chb.us _ (lastOf_mem chb.ne)
  obtain ⟨y, w, hy⟩ := tabAt hws (usable_lt lu)
  have s0 := gh.same
  have lch : ch.length ≤ 8 := by
    have := gh.lens ch chm
    omega
  refine ⟨_, gs.s5, _, gs.s7, _, _, _, _, rfl, rfl, SqL.of gh.ch, atI_nat hx, 1, rfl, _, _, _, _, rfl, rfl, SqT.of hz, at_neg1 (last_nV chb.ne), ?_⟩
  have gs8 := gs.set (i := 8) (v := some (nV (lastOf ch))) (by omega)
  have g8 : (σ.set 8 (some (nV (lastOf ch))))[8]? = some (some (nV (lastOf ch))) := setS (by rw [gs.len]; omega)
  refine ⟨_, gs8.s2, _, gs8.s0, _, g8, _, _, _, _, rfl, rfl, SqT.of (s0 _ _ ht), atI_nat w, y, _, rfl, .inr (SqT.of (s0 _ _ hy)), rfl, flat_nV _, _, rfl, ?_⟩
  rw [inV_nV, if_neg (by decide)]
  by_cases goal : b ∈ st sets (lastOf ch)
  · refine ite2 (fun _ => ?_) (fun z => absurd (decide_eq_true goal) z)
    exact ⟨_, gs8.s5, _, gs8.s7, _, _, _, _, rfl, rfl, SqL.of gh.ch, atI_nat hx, q2 (.ref z) ch H' s0 hxs lch (chb.chain goal)⟩
  refine ite2 (fun z => absurd (of_decide_eq_true z) goal) (fun _ => ?_)
  -- the neighbours
  refine ⟨_, gs8.s4, U, rfl, ⟨_, SqL.of gh.us⟩, ?_⟩
  refine for_list (xs := (usable sets c).map nV) (fun i σ H' => ∃ chs' cs' kvs', (∃ more, chs' = chs ++ more) ∧ ChSlots σ t U C S b at' ∧ σ[8]? = some (some (nV (lastOf ch))) ∧ ChHeap H U C S sets a c cs' chs' kvs' H' ∧ ∀ j ∈ (usable sets c).take i, Meet (st sets (lastOf ch)) (st sets j) → j ∈ chs'.map lastOf)
    ⟨chs, cs, kvs, ⟨[], (List.append_nil _).symm⟩, gs8, g8, gh, fun j hj => absurd hj (by simp)⟩ (fun i σ H' _ g => ?_) (fun i x σ H' hi g => ?_) (fun σ H' g => ?_)
  · obtain ⟨_, _, _, _, _, _, h, _⟩ := g
    exact SqL.of h.us
  · obtain ⟨chs', cs', kvs', ⟨more, hmore⟩, ps, p8, ph, pn⟩ := g
    obtain ⟨j, hj, rfl⟩ := map_get hi
    have ju := List.mem_of_getElem? hj
    obtain ⟨y', w', hy'⟩ := tabAt hws (usable_lt ju)
    have ps9 := ps.set (i := 9) (v := some (nV j)) (by omega)
    have p89 : (σ.set 9 (some (nV j)))[8]? = some (some (nV (lastOf ch))) := getS p8 (by decide)
    have p9 : (σ.set 9 (some (nV j)))[9]? = some (some (nV j)) := setS (by rw [ps.len]; omega)
    have near : ∀ l : List (List Nat), (∀ k ∈ chs'.map lastOf, k ∈ l.map lastOf) → (Meet (st sets (lastOf ch)) (st sets j) → j ∈ l.map lastOf) → ∀ k ∈ (usable sets c).take (i + 1), Meet (st sets (lastOf ch)) (st sets k) → k ∈ l.map lastOf := fun l h1 h2 k hk hm => by
      rw [List.take_add_one, hj] at hk
      rcases List.mem_append.mp hk with u | u
      · exact h1 k (pn k u hm)
      · have e : k = j := List.mem_singleton.mp u
        subst e
        exact h2 hm
    refine ⟨_, p9, _, ps9.s6, S, _, rfl, DGet.k (k := Sum.inl (j : Int)) ph.seen, _, rfl, ?_⟩
    rw [ph.keys j]
    by_cases e1 : j ∈ chs'.map lastOf
    · refine ite2 (fun z => absurd z (by rw [decide_eq_true e1]; decide)) (fun _ => ?_)
      exact iteF ⟨chs', cs', kvs', ⟨more, hmore⟩, ps9, p89, ph, near chs' (fun _ h => h) (fun _ => e1)⟩
    refine ite2 (fun _ => ?_) (fun z => absurd (by rw [decide_eq_false e1]; rfl) z)
    have s5 := ph.same
    refine ⟨_, ps9.s0, _, p89, _, _, _, _, rfl, rfl, SqT.of (s5 _ _ ht), atI_nat w, _, ps9.s0, _, p9, _, _, _, _, rfl, rfl, SqT.of (s5 _ _ ht), atI_nat w', .ref y, .ref y', _, _, rfl, ⟨y, rfl, s5 _ _ hy⟩, ⟨y', rfl, s5 _ _ hy'⟩, by have := set_few hok (usable_lt lu); omega, fun H4 s4 => ⟨_, rfl, ?_⟩⟩
    have ph4 := ph.keep s4
    by_cases e2 : Meet (st sets (lastOf ch)) (st sets j)
    case neg => exact ite2 (fun z => absurd (of_decide_eq_true z) e2) (fun _ => ⟨chs', cs', kvs', ⟨more, hmore⟩, ps9, p89, ph4, near chs' (fun _ h => h) (fun z => absurd z e2)⟩)
    refine ite2 (fun _ => ?_) (fun z => absurd (decide_eq_true e2) z)
    have lcs' := ph4.each.length
    have sh' := ph4.search.short
    have few' := ph4.few
    have hch' : chs'[at']? = some ch := by rw [hmore, List.getElem?_append_left d]; exact hch
    obtain ⟨x2, hx2, hxs2⟩ := ph4.each.getR hch'
    obtain ⟨z2, rfl, hz2⟩ := id hxs2
    refine ⟨_, ps9.s6, _, p9, S, _, rfl, DPut.k (k := Sum.inl (j : Int)) ph4.seen (szl (by omega)), ?_⟩
    have k6 := tk_dK ph4.seen (.dK (putK kvs' (Sum.inl (j : Int)) (V.bl true)))
    have hC6 : (upd H4 S (.dK (putK kvs' (Sum.inl (j : Int)) (V.bl true)))) C = some (.lst cs') := by rw [upd_ne CS]; exact ph4.ch
    have hz6 := k6 _ _ hz2
    generalize hG : upd H4 S (.dK (putK kvs' (Sum.inl (j : Int)) (V.bl true))) = H6 at hC6 hz6 ⊢
    refine ⟨_, ps9.s5, .inl ⟨rfl, _, SqL.of hC6⟩, _, ps9.s5, _, ps9.s7, _, _, _, _, rfl, rfl, SqL.of hC6, atI_nat hx2, _, p9, by show 1 ≤ sizeLine; decide, fun p np => ?_⟩
    have s7 := same_new np (.tup [nV j])
    refine catA (s7 _ _ hz6) upd_same (by rw [List.length_map]; show ch.length + 1 ≤ 100000; omega) (fun r H8 s8 h8 => ?_)
    refine ⟨C, cs', .ref r, rfl, rfl, (s7.trans s8) _ _ hC6, szl (by omega), ?_⟩
    refine ⟨chs' ++ [ch ++ [j]], cs' ++ [.ref r], _, ⟨more ++ [ch ++ [j]], by rw [hmore, List.append_assoc]⟩, ps9, p89, ph4.add UC US CS nCH nSH (v := V.bl true) (by rw [hG]; exact s7.trans s8) ⟨r, rfl, by rw [h8, List.map_append]; rfl⟩ (ph4.search.snoc (List.mem_of_getElem? hch') ju e1 e2) (List.mem_of_getElem? hch'), near _ (fun k hk => by rw [List.map_append]; exact List.mem_append_left _ hk) (fun _ => by rw [List.map_append, List.map_cons, List.map_nil, lastOf_snoc]; exact List.mem_append_right _ (List.mem_singleton.mpr rfl))⟩
  · obtain ⟨chs', cs', kvs', ⟨more, hmore⟩, ps, p8, ph, pn⟩ := g
    rw [List.length_map, List.take_length] at pn
    refine ⟨_, ps.s7, _, _, rfl, rfl, ?_⟩
    refine ⟨m - 1, by omega, at' + 1, chs', cs', kvs', by omega, by rw [hmore, List.length_append]; omega, ⟨by rw [List.length_set]; exact ps.len, getS ps.s0 (by decide), getS ps.s2 (by decide), getS ps.s4 (by decide), getS ps.s5 (by decide), getS ps.s6 (by decide), setS (by rw [ps.len]; omega)⟩, ph, fun k hk => ?_⟩
    rw [hmore, List.take_add_one, List.getElem?_append_left d, hch, List.take_append_of_le_length ga] at hk
    rcases List.mem_append.mp hk with u | u
    · rw [hmore]
      exact (gd k u).more
    · have e : k = ch := List.mem_singleton.mp u
      subst e
      exact ⟨goal, pn⟩
end UR
namespace UR
open PySem PySem.Spec PyProof.Rows L2
theorem sc_chains_of : FnScope ["sets", "a", "b", "c", "chains"] ["sets", "a", "b", "c"] (defScope (top 36)) := ⟨rfl, rfl, rfl, by decide +kernel, rfl, by decide +kernel, by decide +kernel⟩
set_option maxHeartbeats 8000000 in
theorem cal_chains_of {P : Program} {w : World} {K : PySem.W.Frag} {mg : Str → Option Value} {base : Heap}  (B : Bl mg) (D : DefAt K mg 36 "chains_of") (C_chain_for : Cal P w K mg base (2) "chain_for" ["sets", "start", "goal", "left_out"] sp_chain_for) :
    Cal P w K mg base (3) "chains_of" ["sets", "a", "b", "c"] sp_chains_of := by
  have sc := sc_chains_of
  refine cal_of D sc (fun kV doc pm an cdv ct us hl => match us, hl with | [_, _, _, _], _ => rfl) (fun vs H Q E h => ?_) (fun f cdv A outer s H vs Q E hr h => ?_)
  · obtain ⟨n, v, sets, a, b, c, rfl, hS, hok, hab, hbc, q1, q2⟩ := h
    rfl
  obtain ⟨n, v, sets, a, b, c, rfl, hS, hok, hab, hbc, q1, q2⟩ := h
  refine ⟨_, (pss_cons (ps_set (i := 4) sc.nd rfl (Or.inl rfl) (pe_lst (pa_cons (pe_cal C_chain_for (hr.mono (by omega)) (by rfl) (pa_cons (pv 0) (pa_cons (pv 1) (pa_cons (pv 2) (pa_cons (pv 3) pa_nil))))) pa_nil)))
    (Evl.pss_cut (ps_if (pt_cmpR op_notN (pe_ix (ix_listK K) (pv 4) pe_int (fun _ _ => rfl)) pe_non (nomark _)) (pss_one (ps_expr (pe_bm PySem.F.plainAttrs_list PySem.F.slot_list_append PySem.F.type_list_append mt_append (pv 4) (pa_cons (pe_cal C_chain_for (hr.mono (by omega)) (by rfl) (pa_cons (pv 0) (pa_cons (pv 1) (pa_cons (pv 3) (pa_cons (pv 2) pa_nil))))) pa_nil)))) pss_nil)
    (Evl.pss_cut (ps_if (pt_cmpR op_notN (pe_ix (ix_listK K) (pv 4) (pe_un un_neg pe_int) (fun _ _ => rfl)) pe_non (nomark _)) (pss_one (ps_expr (pe_bm PySem.F.plainAttrs_list PySem.F.slot_list_append PySem.F.type_list_append mt_append (pv 4) (pa_cons (pe_cal C_chain_for (hr.mono (by omega)) (by rfl) (pa_cons (pv 0) (pa_cons (pv 2) (pa_cons (pv 3) (pa_cons (pv 1) pa_nil))))) pa_nil)))) pss_nil)
    (pss_cons (ps_if (pt_cmpR op_isN (pe_ix (ix_listK K) (pv 4) (pe_un un_neg pe_int) (fun _ _ => rfl)) pe_non (nomark _)) (pss_one (ps_ret pe_non)) pss_nil)
    (pss_one (ps_ret (pe_callTy (call_tupleK K) (by rfl) B.tuple (by decide +kernel) (pa_cons (pv 4) pa_nil)))))))), ?_⟩
  refine ⟨_, rfl, _, rfl, _, rfl, _, rfl, n, v, sets, a, b, c, rfl, hS, hok, by omega, fun no H1 s1 => ?_, fun u1 k1 H1 s1 hu1 l1 hk1 => ?_⟩
  · refine ⟨by show 1 ≤ sizeLine; decide, fun p np => ?_⟩
    have s2 := same_new np (.lst [.non])
    refine ⟨_, ?_, fun _ _ m => m⟩
    refine ⟨_, rfl, _, _, _, _, rfl, rfl, SqL.of upd_same, at0, rfl, _, rfl, iteF ?_⟩
    refine ⟨_, ?_, fun _ _ m => m⟩
    refine ⟨_, rfl, 1, rfl, _, _, _, _, rfl, rfl, SqL.of upd_same, at_neg1 rfl, rfl, _, rfl, iteF ?_⟩
    refine ⟨_, rfl, 1, rfl, _, _, _, _, rfl, rfl, SqL.of upd_same, at_neg1 rfl, rfl, _, rfl, iteT ?_⟩
    exact q1 (fun V l => no V l.1) _ (s1.trans s2)
  obtain ⟨a1, rfl, h1⟩ := id hu1
  refine ⟨by show 1 ≤ sizeLine; decide, fun p np => ?_⟩
  have s2 := same_new np (.lst [.ref a1])
  have hp2 : (upd H1 p (.lst [.ref a1])) p = some (.lst [.ref a1]) := upd_same
  refine ⟨_, ?_, fun _ _ m => m⟩
  refine ⟨_, rfl, _, _, _, _, rfl, rfl, SqL.of upd_same, at0, rfl, _, rfl, iteT ?_⟩
  have s12 := s1.trans s2
  refine ⟨_, rfl, .inl ⟨rfl, _, SqL.of hp2⟩, _, rfl, _, rfl, _, rfl, _, rfl, n, v, sets, a, c, b, rfl, hS.tk (tk s12), hok, by omega, fun no H3 s3 => ?_, fun u2 k2 H3 s3 hu2 l2 hk2 => ?_⟩
  · have hp3 := s3 _ _ hp2
    refine ⟨p, [.ref a1], .non, rfl, rfl, hp3, szl (by show 1 < 100000; omega), ?_⟩
    have s4 := same_mut (s2.trans s3) np (o := .lst ([.ref a1] ++ [.non]))
    refine ⟨_, ?_, fun _ _ m => m⟩
    refine ⟨_, rfl, 1, rfl, _, _, _, _, rfl, rfl, SqL.of upd_same, at_neg1 rfl, rfl, _, rfl, iteF ?_⟩
    refine ⟨_, rfl, 1, rfl, _, _, _, _, rfl, rfl, SqL.of upd_same, at_neg1 rfl, rfl, _, rfl, iteT ?_⟩
    exact q1 (fun V l => no V l.2.1) _ (s1.trans s4)
  obtain ⟨a2, rfl, h2⟩ := id hu2
  have hp3 := s3 _ _ hp2
  refine ⟨p, [.ref a1], .ref a2, rfl, rfl, hp3, szl (by show 1 < 100000; omega), ?_⟩
  have s4 := same_mut (s2.trans s3) np (o := .lst ([.ref a1] ++ [.ref a2]))
  have k4 := tk_lst hp3 (.lst ([.ref a1] ++ [.ref a2]))
  have hp4 : (upd H3 p (.lst ([.ref a1] ++ [.ref a2]))) p = some (.lst [.ref a1, .ref a2]) := upd_same
  refine ⟨_, ?_, fun _ _ m => m⟩
  refine ⟨_, rfl, 1, rfl, _, _, _, _, rfl, rfl, SqL.of upd_same, at_neg1 rfl, rfl, _, rfl, iteT ?_⟩
  have s14 := s1.trans s4
  refine ⟨_, rfl, .inl ⟨rfl, _, SqL.of hp4⟩, _, rfl, _, rfl, _, rfl, _, rfl, n, v, sets, b, c, a, rfl, hS.tk (tk s14), hok, by omega, fun no H5 s5 => ?_, fun u3 k3 H5 s5 hu3 l3 hk3 => ?_⟩
  · have hp5 := s5 _ _ hp4
    refine ⟨p, [.ref a1, .ref a2], .non, rfl, rfl, hp5, szl (by show 2 < 100000; omega), ?_⟩
    refine ⟨_, rfl, 1, rfl, _, _, _, _, rfl, rfl, SqL.of upd_same, at_neg1 rfl, rfl, _, rfl, iteT ?_⟩
    exact q1 (fun V l => no V l.2.2) _ (s1.trans (same_mut (s4.trans s5) np))
  obtain ⟨a3, rfl, h3⟩ := id hu3
  have hp5 := s5 _ _ hp4
  refine ⟨p, [.ref a1, .ref a2], .ref a3, rfl, rfl, hp5, szl (by show 2 < 100000; omega), ?_⟩
  have s6 := same_mut (s4.trans s5) np (o := .lst ([.ref a1, .ref a2] ++ [.ref a3]))
  have k6 := tk_lst hp5 (.lst ([.ref a1, .ref a2] ++ [.ref a3]))
  refine ⟨_, rfl, 1, rfl, _, _, _, _, rfl, rfl, SqL.of upd_same, at_neg1 rfl, rfl, _, rfl, iteF ?_⟩
  refine ⟨_, rfl, p, _, rfl, .inl ⟨SqL.of upd_same, fun r nr => ?_⟩⟩
  have s7 := same_new nr (.tup ([.ref a1, .ref a2] ++ [.ref a3]))
  have k7 := tk s7
  refine q2 (.ref r) k1 k2 k3 _ (s1.trans (s6.trans s7)) ⟨r, _, _, _, rfl, upd_same, ?_, ?_, hu3.tk (k6.trans k7)⟩ ⟨l1, l2, l3⟩ hk1 hk2 hk3
  · exact hu1.tk (tk (s6.trans s7))
  · exact hu2.tk (((k4.trans (tk s5)).trans k6).trans k7)
end UR
namespace UR
open PySem PySem.Spec PyProof.Rows L2
theorem sc_paper_of : FnScope ["n", "sets", "a", "b", "c", "chains"] ["n", "sets"] (defScope (top 37)) := ⟨rfl, rfl, rfl, by decide +kernel, rfl, by decide +kernel, by decide +kernel⟩
set_option maxHeartbeats 8000000 in
theorem cal_paper_of {P : Program} {w : World} {K : PySem.W.Frag} {mg : Str → Option Value} {base : Heap}  (B : Bl mg) (D : DefAt K mg 37 "paper_of") (C_chains_of : Cal P w K mg base (3) "chains_of" ["sets", "a", "b", "c"] sp_chains_of) :
    Cal P w K mg base (4) "paper_of" ["n", "sets"] sp_paper_of := by
  have sc := sc_paper_of
  refine cal_of D sc (fun kV doc pm an cdv ct us hl => match us, hl with | [_, _], _ => rfl) (fun vs H Q E h => ?_) (fun f cdv A outer s H vs Q E hr h => ?_)
  · obtain ⟨n, v, sets, rfl, hS, hok, q1, q2⟩ := h
    rfl
  obtain ⟨n, v, sets, rfl, hS, hok, q1, q2⟩ := h
  refine ⟨_, (pss_cons (ps_for PassesOwn.never rfl (pi_range1 (by rfl) B.range (pa_cons (pv 0) pa_nil)) (pg_name (i := 2) sc.nd rfl (Or.inl rfl)) (pss_one (ps_for PassesOwn.never rfl (pi_range2 (by rfl) B.range (pa_cons (pe_op op_add (pv 2) pe_int) (pa_cons (pv 0) pa_nil))) (pg_name (i := 3) sc.nd rfl (Or.inl rfl)) (pss_one (ps_for PassesOwn.never rfl (pi_range2 (by rfl) B.range (pa_cons (pe_op op_add (pv 3) pe_int) (pa_cons (pv 0) pa_nil))) (pg_name (i := 4) sc.nd rfl (Or.inl rfl)) (pss_cons (ps_set (i := 5) sc.nd rfl (Or.inl rfl) (pe_cal C_chains_of (hr.mono (by omega)) (by rfl) (pa_cons (pv 1) (pa_cons (pv 2) (pa_cons (pv 3) (pa_cons (pv 4) pa_nil))))))
          (pss_one (ps_if (pt_cmpR op_notN (pv 5) pe_non (nomark _)) (pss_one (ps_ret (pe_tup (pa_cons pe_str (pa_cons (pe_tup (pa_cons (pv 2) (pa_cons (pv 3) (pa_cons (pv 4) pa_nil)))) (pa_cons (pv 5) pa_nil)))))) pss_nil))))))))
    (pss_one (ps_ret pe_non))), ?_⟩
  have n24 := hok.2.1
  refine ⟨_, rfl, _, rfl, by omega, by omega, ?_⟩
  refine for_range (lo := 0) (fun i σ H' => Same H H' ∧ σ.length = 6 ∧ σ[0]? = some (some (nV n)) ∧ σ[1]? = some (some v) ∧ ∀ a b c, a < i → a < b → b < c → c < n → ∀ V, ¬ Links V sets a b c) ⟨Same.refl _, rfl, rfl, rfl, fun a b c z => by omega⟩ (fun i σ H' hi p => ?_) (fun σ H' p => ?_)
  · obtain ⟨s1, p1, p2, p3, p4⟩ := p
    have ei : (0 : Int) + (i : Int) = (i : Int) := Int.zero_add _
    have hi2 : i < n := by omega
    rw [ei]
    refine ⟨_, setS (by omega), _, _, rfl, rfl, _, getS p2 (by decide), (i : Int) + 1, (n : Int), rfl, ⟨by omega, by omega, by omega, by omega⟩, ?_⟩
    refine for_range (lo := (i : Int) + 1) (fun j σ H' => Same H H' ∧ σ.length = 6 ∧ σ[0]? = some (some (nV n)) ∧ σ[1]? = some (some v) ∧ σ[2]? = some (some (nV i)) ∧ ∀ b c, i < b → b < i + 1 + j → b < c → c < n → ∀ V, ¬ Links V sets i b c)
      ⟨s1, by rw [List.length_set]; exact p1, getS p2 (by decide), getS p3 (by decide), setS (by omega), fun b c z z2 => by omega⟩ (fun j σ H' hj p => ?_) (fun σ H' p => ?_)
    · obtain ⟨s2, p1, p2, p3, p5, p6⟩ := p
      have ej : (i : Int) + 1 + (j : Int) = ((i + 1 + j : Nat) : Int) := by omega
      have hj2 : i + 1 + j < n := by omega
      rw [ej]
      refine ⟨_, setS (by omega), _, _, rfl, rfl, _, getS p2 (by decide), ((i + 1 + j : Nat) : Int) + 1, (n : Int), rfl, ⟨by omega, by omega, by omega, by omega⟩, ?_⟩
      refine for_range (lo := ((i + 1 + j : Nat) : Int) + 1) (fun k σ H' => Same H H' ∧ σ.length = 6 ∧ σ[0]? = some (some (nV n)) ∧ σ[1]? = some (some v) ∧ σ[2]? = some (some (nV i)) ∧ σ[3]? = some (some (nV (i + 1 + j))) ∧ ∀ c, i + 1 + j < c → c < i + 1 + j + 1 + k → c < n → ∀ V, ¬ Links V sets i (i + 1 + j) c)
        ⟨s2, by rw [List.length_set]; exact p1, getS p2 (by decide), getS p3 (by decide), getS p5 (by decide), setS (by omega), fun c z z2 => by omega⟩ (fun k σ H' hk p => ?_) (fun σ H' p => ?_)
      · obtain ⟨s3, p1, p2, p3, p5, p7, p8⟩ := p
        have ek : ((i + 1 + j : Nat) : Int) + 1 + (k : Int) = ((i + 1 + j + 1 + k : Nat) : Int) := by omega
        have hk2 : i + 1 + j + 1 + k < n := by omega
        rw [ek]
        have on : ∀ u, (σ.set 4 (some (nV (i + 1 + j + 1 + k)))).set 5 u = (σ.set 4 (some (nV (i + 1 + j + 1 + k)))).set 5 u := fun _ => rfl
        refine ⟨_, getS p3 (by decide), _, getS p5 (by decide), _, getS p7 (by decide), _, setS (by omega), n, v, sets, i, i + 1 + j, i + 1 + j + 1 + k, rfl, hS.tk (tk s3), hok, by omega, by omega, fun no H2 s4 => ?_, fun u k1 k2 k3 H2 s4 hu hsh h1 h2 h3 => ?_⟩
        · refine ⟨_, setS (by rw [List.length_set]; omega), rfl, _, rfl, iteF ⟨s3.trans s4, by rw [List.length_set, List.length_set]; exact p1, getS (getS p2 (by decide)) (by decide), getS (getS p3 (by decide)) (by decide), getS (getS p5 (by decide)) (by decide), getS (getS p7 (by decide)) (by decide), fun c z z2 z3 => ?_⟩⟩
          by_cases e : c < i + 1 + j + 1 + k
          · exact p8 c z e z3
          · have e2 : c = i + 1 + j + 1 + k := by omega
            subst e2
            exact no
        · obtain ⟨r, v1, v2, v3, rfl, hr', _⟩ := id hu
          refine ⟨_, setS (by rw [List.length_set]; omega), rfl, _, rfl, iteT ?_⟩
          refine ⟨_, getS (getS p5 (by decide)) (by decide), _, getS (getS p7 (by decide)) (by decide), _, getS (setS (by omega)) (by decide), by show 3 ≤ sizeLine; decide, fun t nt => ?_⟩
          refine ⟨_, setS (by rw [List.length_set]; omega), by show 3 ≤ sizeLine; decide, fun f nf => ?_⟩
          have s5 := same_new nt (.tup [nV i, nV (i + 1 + j), nV (i + 1 + j + 1 + k)])
          have s6 := same_new nf (.tup [.str "three", .ref t, .ref r])
          exact q2 (.ref f) i (i + 1 + j) (i + 1 + j + 1 + k) k1 k2 k3 _ (s3.trans (s4.trans (s5.trans s6))) ⟨f, t, .ref r, rfl, upd_same, s6 _ _ upd_same, hu.tk (tk (s5.trans s6))⟩ hsh ⟨by omega, by omega, by omega, h1, h2, h3⟩
      · obtain ⟨s3, p1, p2, p3, p5, p7, p8⟩ := p
        refine ⟨s3, p1, p2, p3, p5, fun b c z z2 z3 z4 => ?_⟩
        by_cases e : b < i + 1 + j
        · exact p6 b c z e z3 z4
        · have e2 : b = i + 1 + j := by omega
          subst e2
          exact p8 c z3 (by omega) z4
    · obtain ⟨s3, p1, p2, p3, p5, p6⟩ := p
      refine ⟨s3, p1, p2, p3, fun a b c z z2 z3 z4 => ?_⟩
      by_cases e : a < i
      · exact p4 a b c e z2 z3 z4
      · have e2 : a = i := by omega
        subst e2
        exact p6 b c z2 (by omega) z3 z4
  · obtain ⟨s1, p1, p2, p3, p4⟩ := p
    exact q1 (fun a b c h1 h2 h3 => p4 a b c (by omega) h1 h2 h3) H' s1
end UR
namespace UR
open PySem PySem.Spec PyProof.Rows L2
theorem sc_paper_for : FnScope ["n", "sets"] ["n", "sets"] (defScope (top 38)) := ⟨rfl, rfl, rfl, by decide +kernel, rfl, by decide +kernel, by decide +kernel⟩
set_option maxHeartbeats 8000000 in
theorem cal_paper_for {P : Program} {w : World} {K : PySem.W.Frag} {mg : Str → Option Value} {base : Heap}  (B : Bl mg) (D : DefAt K mg 38 "paper_for") (C_paper_of : Cal P w K mg base (4) "paper_of" ["n", "sets"] sp_paper_of) (C_tree_of : Cal P w K mg base (122) "tree_of" ["n", "sets"] sp_tree_of) :
    Cal P w K mg base (123) "paper_for" ["n", "sets"] sp_paper_for := by
  have sc := sc_paper_for
  refine cal_of D sc (fun kV doc pm an cdv ct us hl => match us, hl with | [_, _], _ => rfl) (fun vs H Q E h => ?_) (fun f cdv A outer s H vs Q E hr h => ?_)
  · obtain ⟨n, v, sets, rfl, hS, hok, q1, q2⟩ := h
    rfl
  obtain ⟨n, v, sets, rfl, hS, hok, q1, q2⟩ := h
  refine ⟨_, (pss_cons (ps_if (pt_cmpR op_notN (pe_cal C_tree_of (hr.mono (by omega)) (by rfl) (pa_cons (pv 0) (pa_cons (pv 1) pa_nil))) pe_non (nomark _)) (pss_one (ps_ret pe_non)) pss_nil)
    (pss_one (ps_ret (pe_cal C_paper_of (hr.mono (by omega)) (by rfl) (pa_cons (pv 0) (pa_cons (pv 1) pa_nil)))))), ?_⟩
  refine ⟨_, rfl, _, rfl, n, v, sets, rfl, hS, hok, fun no H1 s1 => ?_, fun T hT u H1 s1 hu => ?_⟩
  · refine ⟨rfl, _, rfl, iteF ?_⟩
    refine ⟨_, rfl, _, rfl, n, v, sets, rfl, hS.tk (tk s1), hok, fun na => ?_, fun u a b c k1 k2 k3 H2 s2 hu hsh hp => q2 u a b c k1 k2 k3 H2 no (s1.trans s2) hu hsh hp⟩
    obtain ⟨a, b, c, h1, h2, h3, l⟩ := three_avoid no
    exact absurd l (na a b c h1 h2 h3 _)
  · refine ⟨rfl, _, rfl, ite2 (fun _ => q1 hT.order H1 s1) (fun z => absurd ?_ z)⟩
    exact (by rw [decide_eq_false (tree_not_non hu)]; rfl)
end UR
namespace UR
open PySem PySem.Spec PyProof.Rows L2
theorem sc_is_chain : FnScope ["sets", "chain", "start", "goal", "left_out", "index", "k"] ["sets", "chain", "start", "goal", "left_out"] (defScope (top 39)) := ⟨rfl, rfl, rfl, by decide +kernel, rfl, by decide +kernel, by decide +kernel⟩
set_option maxHeartbeats 8000000 in
theorem cal_is_chain {P : Program} {w : World} {K : PySem.W.Frag} {mg : Str → Option Value} {base : Heap}  (B : Bl mg) (D : DefAt K mg 39 "is_chain") (C_share_a_thing : Cal P w K mg base (1) "share_a_thing" ["one", "other"] sp_share_a_thing) :
    Cal P w K mg base (2) "is_chain" ["sets", "chain", "start", "goal", "left_out"] sp_is_chain := by
  have sc := sc_is_chain
  refine cal_of D sc (fun kV doc pm an cdv ct us hl => match us, hl with | [_, _, _, _, _], _ => rfl) (fun vs H Q E h => ?_) (fun f cdv A outer s H vs Q E hr h => ?_)
  · obtain ⟨n, v, u, sets, ch, a, b, c, rfl, hS, hok, ⟨p, rfl, hp⟩, l, q⟩ := h
    rfl
  obtain ⟨n, v, u, sets, ch, a, b, c, rfl, hS, hok, ⟨p, rfl, hp⟩, l, q⟩ := h
  refine ⟨_, (pss_cons (ps_if (PW.pt (pw_or (pt_cmpR op_eq (pe_callB (call_lenK K) (by rfl) B.len PySem.boot_len (pa_cons (pv 1) pa_nil)) pe_int (nomark _)) (pw_or1 (pt_not (pt_val (pe_callB (cr_allK K rfl) (by rfl) B.all (by decide +kernel) (pa_cons (pe_lc (own := [("index", 5)]) rfl sc.nd (pi_tupK K (pv 1)) (blkOk_by (N := ["sets", "chain", "start", "goal", "left_out", "index", "k"]) (sc := defScope (top 39)) (by decide +kernel)) (fun _ _ _ _ _ => (pg_name (i := 5) sc.nd rfl (Or.inl rfl))) (fun _ _ _ _ _ => pts_nil) (fun _ _ _ _ _ => (pe_chain op_le op_lt pe_int (pv 5) (pe_callB (call_lenK K) (by rfl) B.len PySem.boot_len (pa_cons (pv 0) pa_nil))))) pa_nil))))))) (pss_one (ps_ret pe_bl)) pss_nil)
    (pss_cons (ps_if (PW.pt (pw_or (pt_cmpR (op_notIn_seqK K) (pv 2) (pe_ix (ix_tupK K) (pv 0) (pe_ix (ix_tupK K) (pv 1) pe_int (fun _ _ => rfl)) (fun _ _ => rfl)) (by with_unfolding_all rfl)) (pw_or1 (pt_cmpR (op_notIn_seqK K) (pv 3) (pe_ix (ix_tupK K) (pv 0) (pe_ix (ix_tupK K) (pv 1) (pe_un un_neg pe_int) (fun _ _ => rfl)) (fun _ _ => rfl)) (by with_unfolding_all rfl))))) (pss_one (ps_ret pe_bl)) pss_nil)
    (pss_cons (ps_if (pt_val (pe_callB (cr_anyK K rfl) (by rfl) B.any (by decide +kernel) (pa_cons (pe_lc (own := [("index", 5)]) rfl sc.nd (pi_tupK K (pv 1)) (blkOk_by (N := ["sets", "chain", "start", "goal", "left_out", "index", "k"]) (sc := defScope (top 39)) (by decide +kernel)) (fun _ _ _ _ _ => (pg_name (i := 5) sc.nd rfl (Or.inl rfl))) (fun _ _ _ _ _ => pts_nil) (fun _ _ _ _ _ => (pe_cmpR (op_in_seqK K) (pv 4) (pe_ix (ix_tupK K) (pv 0) (pv 5) (fun _ _ => rfl)) (by with_unfolding_all rfl)))) pa_nil))) (pss_one (ps_ret pe_bl)) pss_nil)
    (pss_one (ps_ret (pe_callB (cr_allK K rfl) (by rfl) B.all (by decide +kernel) (pa_cons (pe_lc (own := [("k", 6)]) rfl sc.nd (pi_range2 (by rfl) B.range (pa_cons pe_int (pa_cons (pe_callB (call_lenK K) (by rfl) B.len PySem.boot_len (pa_cons (pv 1) pa_nil)) pa_nil))) (blkOk_by (N := ["sets", "chain", "start", "goal", "left_out", "index", "k"]) (sc := defScope (top 39)) (by decide +kernel)) (fun _ _ _ _ _ => (pg_name (i := 6) sc.nd rfl (Or.inl rfl))) (fun _ _ _ _ _ => pts_nil) (fun _ _ _ _ _ => (pe_cal C_share_a_thing (hr.mono (by omega)) (by rfl) (pa_cons (pe_ix (ix_tupK K) (pv 0) (pe_ix (ix_tupK K) (pv 1) (pe_op op_sub (pv 6) pe_int) (fun _ _ => rfl)) (fun _ _ => rfl)) (pa_cons (pe_ix (ix_tupK K) (pv 0) (pe_ix (ix_tupK K) (pv 1) (pv 6) (fun _ _ => rfl)) (fun _ _ => rfl)) pa_nil))))) pa_nil))))))), ?_⟩
  obtain ⟨t, ws, rfl, ht, hws⟩ := id hS
  have lw := hws.length
  have l8 := hok.2.2.1
  have out : ∀ H', Same H H' → ¬ IsChain sets ch a b c → Q (.bl false) H' := fun H' s z => q false H' s ⟨fun y => (by cases y), fun y => absurd y z⟩
  refine ⟨_, rfl, p, _, rfl, .inr (SqT.of hp), rfl, _, rfl, ite2 (fun d => iteT ?_) (fun d => ?_)⟩
  · refine out H (Same.refl _) fun z => z.ne ?_
    have d1 : V.int ((ch.map nV).length : Nat) = V.int 0 := of_decide_eq_true d
    have d2 := V.int.inj d1
    rw [List.length_map] at d2
    exact List.eq_nil_of_length_eq_zero (by omega)
  have ne : ch ≠ [] := fun z => d (decide_eq_true (by rw [z]; rfl))
  refine ⟨_, rfl, p, rfl, ⟨_, SqT.of hp⟩, fun D nD => ?_⟩
  refine lc_tup (K := K) (a := p) (xs := ch.map nV) (LcInv H D fun i ys _ => ys = (ch.take i).map fun j => V.bl (decide (j < sets.length))) (lc_start nD rfl) (fun i H' _ g => SqT.of (g.2.1 _ _ hp)) (fun i x H' hi g => ?_) (fun H1 g => ?_)
  · obtain ⟨g1, g2, ys, g3, g4, g5⟩ := g
    obtain ⟨j, hj, rfl⟩ := map_get hi
    have hi2 : i < 1000 := by
      have := (List.getElem?_eq_some_iff.mp hj).1
      omega
    refine ⟨rfl, tyes ⟨_, rfl, _, _, rfl, rfl, _, rfl, ite2 (fun _ => ?_) (fun z => absurd (decide_eq_true (by omega)) z)⟩⟩
    refine ⟨_, rfl, t, _, rfl, .inr (SqT.of (g2 _ _ ht)), _, _, rfl, rfl, lc_put (by omega) g1 g2 g3 g4 ?_⟩
    rw [List.take_add_one, hj, List.map_append, ← g5]
    show ys ++ [V.bl (decide ((j : Int) < (ws.length : Int)))] = ys ++ [V.bl (decide (j < sets.length))]
    rw [lw]
    congr 3
    exact decide_eq_decide.mpr Int.ofNat_lt
  obtain ⟨_, s1, ys, hD, _, g5⟩ := g
  rw [List.length_map, List.take_length] at g5
  subst g5
  refine ⟨D, ch.map fun j => decide (j < sets.length), rfl, SqL.of (by rw [hD, List.map_map]; rfl), _, rfl, ?_⟩
  rw [all_bl]
  by_cases e1 : ∀ j ∈ ch, j < sets.length
  case neg => exact ite2 (fun _ => out H1 s1 fun z => e1 z.lt) (fun z => absurd (by rw [decide_eq_false e1]; rfl) z)
  refine iteNS e1 ?_
  -- the ends
  obtain ⟨y0, w0, x0⟩ := tabAt hws (e1 _ (List.mem_of_getElem? (by cases ch with | nil => exact absurd rfl ne | cons a r => rfl : ch[0]? = some (ch.headD 0))))
  have lastm : ch.getLastD 0 ∈ ch := by
    rw [List.getLastD_eq_getLast?, List.getLast?_eq_some_getLast ne]
    exact List.getLast_mem ne
  obtain ⟨y9, w9, x9⟩ := tabAt hws (e1 _ lastm)
  refine ⟨_, rfl, _, rfl, _, rfl, _, _, _, _, rfl, rfl, SqT.of (s1 _ _ hp), atI_nat (j := 0) (head_nV ne), _, _, _, _, rfl, rfl, SqT.of (s1 _ _ ht), atI_nat w0, y0, _, rfl, .inr (SqT.of (s1 _ _ x0)), rfl, flat_nV _, _, rfl, ?_⟩
  rw [inV_nV]
  by_cases e2 : a ∈ st sets (ch.headD 0)
  case neg => exact ite2 (fun _ => iteT (out H1 s1 fun z => e2 z.first)) (fun z => absurd (by rw [if_pos rfl, decide_eq_false e2]; rfl) z)
  refine ite2 (fun z => absurd z (by rw [if_pos rfl, decide_eq_true e2]; decide)) (fun _ => ?_)
  refine ⟨_, rfl, _, rfl, _, rfl, 1, rfl, _, _, _, _, rfl, rfl, SqT.of (s1 _ _ hp), at_neg1 (last_nV ne), _, _, _, _, rfl, rfl, SqT.of (s1 _ _ ht), atI_nat w9, y9, _, rfl, .inr (SqT.of (s1 _ _ x9)), rfl, flat_nV _, _, rfl, ?_⟩
  rw [inV_nV]
  by_cases e3 : b ∈ st sets (ch.getLastD 0)
  case neg => exact ite2 (fun _ => out H1 s1 fun z => e3 z.last) (fun z => absurd (by rw [if_pos rfl, decide_eq_false e3]; rfl) z)
  refine ite2 (fun z => absurd z (by rw [if_pos rfl, decide_eq_true e3]; decide)) (fun _ => ?_)
  -- the one left out
  refine ⟨_, rfl, p, rfl, ⟨_, SqT.of (s1 _ _ hp)⟩, fun E nE => ?_⟩
  refine lc_tup (K := K) (a := p) (xs := ch.map nV) (LcInv H1 E fun i ys _ => ys = (ch.take i).map fun j => V.bl (decide (c ∈ st sets j))) (lc_start nE rfl) (fun i H' _ g => SqT.of (g.2.1 _ _ (s1 _ _ hp))) (fun i x H' hi g => ?_) (fun H2 g => ?_)
  · obtain ⟨g1, g2, ys, g3, g4, g5⟩ := g
    obtain ⟨j, hj, rfl⟩ := map_get hi
    have hi2 : i < 1000 := by
      have := (List.getElem?_eq_some_iff.mp hj).1
      omega
    obtain ⟨y, w, x⟩ := tabAt hws (e1 _ (List.mem_of_getElem? hj))
    have s2 := s1.trans g2
    refine ⟨rfl, tyes ⟨_, rfl, _, rfl, _, rfl, _, _, _, _, rfl, rfl, SqT.of (s2 _ _ ht), atI_nat w, y, _, rfl, .inr (SqT.of (s2 _ _ x)), rfl, flat_nV _, ?_⟩⟩
    refine lc_put (by omega) g1 g2 g3 g4 ?_
    rw [List.take_add_one, hj, List.map_append, ← g5]
    show ys ++ [V.bl (inV (nV c) ((st sets j).map nV))] = _
    rw [inV_nV]
    rfl
  obtain ⟨_, s2, ys, hE, _, g5⟩ := g
  rw [List.length_map, List.take_length] at g5
  subst g5
  have s12 := s1.trans s2
  refine ⟨E, ch.map fun j => decide (c ∈ st sets j), rfl, SqL.of (by rw [hE, List.map_map]; rfl), _, rfl, ?_⟩
  rw [any_bl]
  by_cases e4 : ∃ j ∈ ch, c ∈ st sets j
  · refine ite2 (fun _ => out H2 s12 fun z => ?_) (fun z => absurd (decide_eq_true e4) z)
    obtain ⟨j, j1, j2⟩ := e4
    exact z.out j j1 j2
  refine ite2 (fun z => absurd (of_decide_eq_true z) e4) (fun _ => ?_)
  have e5 : ∀ j ∈ ch, c ∉ st sets j := fun j j1 j2 => e4 ⟨j, j1, j2⟩
  -- the steps
  have cl := List.length_pos_iff.mpr ne
  refine ⟨_, rfl, p, _, rfl, .inr (SqT.of (s12 _ _ hp)), (1 : Int), ((ch.map nV).length : Int), rfl, ⟨by omega, by omega, by omega, by rw [List.length_map]; omega⟩, fun F nF => ?_⟩
  refine lc_range (lo := 1) (LcInv H2 F fun i ys _ => ys = (List.range i).map fun k => V.bl (decide (Meet (st sets (ch.getD k 0)) (st sets (ch.getD (k + 1) 0))))) (lc_start nF rfl) (fun i H' hi g => ?_) (fun H3 g => ?_)
  · obtain ⟨g1, g2, ys, g3, g4, g5⟩ := g
    rw [List.length_map] at hi
    have hi2 : i + 1 < ch.length := by omega
    have m0 : ch.getD i 0 ∈ ch := by rw [getD_at _ (by omega : i < ch.length)]; exact List.getElem_mem _
    have m1 : ch.getD (i + 1) 0 ∈ ch := by rw [getD_at _ hi2]; exact List.getElem_mem _
    obtain ⟨y, w, x⟩ := tabAt hws (e1 _ m0)
    obtain ⟨y', w', x'⟩ := tabAt hws (e1 _ m1)
    have s3 := s12.trans g2
    have ei : (1 : Int) + (i : Int) - 1 = (i : Int) := by omega
    have ei1 : (1 : Int) + (i : Int) = ((i + 1 : Nat) : Int) := by omega
    have few : (st sets (ch.getD i 0)).length ≤ 100 := by
      have e : sets[ch.getD i 0]? = some (st sets (ch.getD i 0)) := by
        unfold st
        rw [getD_at _ (e1 _ m0)]
        exact List.getElem?_eq_getElem (e1 _ m0)
      have hsn := hok.2.2.2 _ (List.mem_of_getElem? e)
      have := nodup_length (m := List.range n) (hsn.1.imp fun h => Nat.ne_of_lt h) (fun x hx => List.mem_range.mpr (hsn.2 x hx))
      rw [List.length_range] at this
      have := hok.2.1
      omega
    refine ⟨rfl, tyes ⟨_, rfl, _, rfl, _, rfl, _, _, rfl, rfl, _, _, _, _, rfl, rfl, SqT.of (s3 _ _ hp), by rw [ei]; exact atI_nat (atD (by omega)), _, _, _, _, rfl, rfl, SqT.of (s3 _ _ ht), atI_nat w, _, rfl, _, rfl, _, rfl, _, _, _, _, rfl, rfl, SqT.of (s3 _ _ hp), by rw [ei1]; exact atI_nat (atD hi2), _, _, _, _, rfl, rfl, SqT.of (s3 _ _ ht), atI_nat w', .ref y, .ref y', _, _, rfl, ⟨y, rfl, s3 _ _ x⟩, ⟨y', rfl, s3 _ _ x'⟩, few, fun H4 s4 => ?_⟩⟩
    refine lc_put (by omega) g1 (g2.trans s4) (s4 _ _ g3) g4 ?_
    rw [List.range_succ, List.map_append, ← g5]
    rfl
  obtain ⟨_, s3, ys, hF, _, g5⟩ := g
  rw [List.length_map] at g5
  subst g5
  refine ⟨F, (List.range ((ch.length : Int) - 1).toNat).map fun k => decide (Meet (st sets (ch.getD k 0)) (st sets (ch.getD (k + 1) 0))), rfl, SqL.of (by rw [hF, List.map_map]; rfl), ?_⟩
  rw [all_bl]
  refine q _ H3 (s12.trans s3) ?_
  rw [decide_eq_true_eq]
  constructor
  · exact fun z => ⟨ne, e1, e2, e3, e5, steps_iff.mpr fun k hk => z k (List.mem_range.mpr (by omega))⟩
  · exact fun z k hk => steps_iff.mp z.steps k (by have := List.mem_range.mp hk; omega)
end UR
namespace UR
open PySem PySem.Spec PyProof.Rows L2
theorem sc_is_paper : FnScope ["n", "sets", "value", "word", "things", "chains", "a", "b", "c"] ["n", "sets", "value"] (defScope (top 40)) := ⟨rfl, rfl, rfl, by decide +kernel, rfl, by decide +kernel, by decide +kernel⟩
set_option maxHeartbeats 8000000 in
theorem cal_is_paper {P : Program} {w : World} {K : PySem.W.Frag} {mg : Str → Option Value} {base : Heap}  (B : Bl mg) (D : DefAt K mg 40 "is_paper") (C_check_table : Cal P w K mg base (3) "check_table" ["n", "sets"] sp_check_table) (C_is_chain : Cal P w K mg base (2) "is_chain" ["sets", "chain", "start", "goal", "left_out"] sp_is_chain) :
    Cal P w K mg base (4) "is_paper" ["n", "sets", "value"] sp_is_paper := by
  have sc := sc_is_paper
  refine cal_of D sc (fun kV doc pm an cdv ct us hl => match us, hl with | [_, _, _], _ => rfl) (fun vs H Q E h => ?_) (fun f cdv A outer s H vs Q E hr h => ?_)
  · obtain ⟨n, v, u, sets, a, b, c, k1, k2, k3, rfl, hS, hok, ⟨p, t, r, rfl, hp, ht, r', v1, v2, v3, rfl, hr', h1, h2, h3⟩, l1, l2, l3, q⟩ := h
    rfl
  obtain ⟨n, v, u, sets, a, b, c, k1, k2, k3, rfl, hS, hok, ⟨p, t, r, rfl, hp, ht, r', v1, v2, v3, rfl, hr', h1, h2, h3⟩, l1, l2, l3, q⟩ := h
  refine ⟨_, (pss_cons (ps_expr (pe_cal C_check_table (hr.mono (by omega)) (by rfl) (pa_cons (pv 0) (pa_cons (pv 1) pa_nil))))
    (pss_cons (ps_asg (pv 2) (pg_tupK K 3 rfl (pgs_cons (pg_name (i := 3) sc.nd rfl (Or.inl rfl) ) (pgs_cons (pg_name (i := 4) sc.nd rfl (Or.inl rfl) ) (pgs_cons (pg_name (i := 5) sc.nd rfl (Or.inl rfl) ) pgs_nil)))))
    (pss_cons (ps_if (PW.pt (pw_or (pt_cmpR op_ne (pv 3) pe_str (nomark _)) (pw_or (pt_cmpR op_ne (pe_callB (call_lenK K) (by rfl) B.len PySem.boot_len (pa_cons (pv 4) pa_nil)) pe_int (nomark _)) (pw_or1 (pt_cmpR op_ne (pe_callB (call_lenK K) (by rfl) B.len PySem.boot_len (pa_cons (pv 5) pa_nil)) pe_int (nomark _)))))) (pss_one (ps_ret pe_bl)) pss_nil)
    (pss_cons (ps_asg (pv 4) (pg_tupK K 3 rfl (pgs_cons (pg_name (i := 6) sc.nd rfl (Or.inl rfl) ) (pgs_cons (pg_name (i := 7) sc.nd rfl (Or.inl rfl) ) (pgs_cons (pg_name (i := 8) sc.nd rfl (Or.inl rfl) ) pgs_nil)))))
    (pss_cons (ps_if (pt_not (pt_chain4 op_le op_lt op_lt op_lt pe_int (pv 6) (pv 7) (pv 8) (pv 0))) (pss_one (ps_ret pe_bl)) pss_nil)
    (pss_cons (ps_if (PW.pt (pw_or (pt_not (pt_val (pe_cal C_is_chain (hr.mono (by omega)) (by rfl) (pa_cons (pv 1) (pa_cons (pe_ix (ix_tupK K) (pv 5) pe_int (fun _ _ => rfl)) (pa_cons (pv 6) (pa_cons (pv 7) (pa_cons (pv 8) pa_nil)))))))) (pw_or1 (pt_not (pt_val (pe_cal C_is_chain (hr.mono (by omega)) (by rfl) (pa_cons (pv 1) (pa_cons (pe_ix (ix_tupK K) (pv 5) pe_int (fun _ _ => rfl)) (pa_cons (pv 6) (pa_cons (pv 8) (pa_cons (pv 7) pa_nil))))))))))) (pss_one (ps_ret pe_bl)) pss_nil)
    (pss_one (ps_ret (pe_cal C_is_chain (hr.mono (by omega)) (by rfl) (pa_cons (pv 1) (pa_cons (pe_ix (ix_tupK K) (pv 5) pe_int (fun _ _ => rfl)) (pa_cons (pv 7) (pa_cons (pv 8) (pa_cons (pv 6) pa_nil)))))))))))))), ?_⟩
  refine ⟨_, rfl, _, rfl, n, v, sets, rfl, hS, hok, ?_⟩
  refine ⟨_, rfl, p, _, rfl, SqT.of hp, rfl, _, _, rfl, _, _, rfl, _, _, rfl, rfl, ?_⟩
  refine ⟨_, rfl, rfl, _, rfl, iteF ⟨_, rfl, t, _, rfl, .inr (SqT.of ht), rfl, _, rfl, iteF ⟨_, rfl, r', _, rfl, .inr (SqT.of hr'), rfl, _, rfl, iteF ?_⟩⟩⟩
  refine ⟨_, rfl, t, _, rfl, SqT.of ht, rfl, _, _, rfl, _, _, rfl, _, _, rfl, rfl, ?_⟩
  have out : ∀ H', Same H H' → ¬ IsPaper n sets a b c k1 k2 k3 → Q (.bl false) H' := fun H' s z => q false H' s ⟨fun z2 => (by cases z2), fun z2 => absurd z2 z⟩
  refine ⟨_, rfl, _, _, rfl, rfl, _, rfl, ite2 (fun d1 => ?_) (fun d1 => absurd (decide_eq_true (by omega)) d1)⟩
  refine ⟨_, rfl, _, _, rfl, rfl, _, rfl, ite2 (fun d2 => ?_) (fun d2 => ⟨_, rfl, iteT (out H (Same.refl _) fun z => d2 (decide_eq_true (by have := z.lt1; omega)))⟩)⟩
  have e1 : a < b := by have := of_decide_eq_true d2; omega
  refine ⟨_, rfl, _, _, rfl, rfl, _, rfl, ite2 (fun d3 => ?_) (fun d3 => ⟨_, rfl, iteT (out H (Same.refl _) fun z => d3 (decide_eq_true (by have := z.lt2; omega)))⟩)⟩
  have e2 : b < c := by have := of_decide_eq_true d3; omega
  refine ⟨_, rfl, _, _, rfl, rfl, _, rfl, ?_⟩
  by_cases e3 : c < n
  case neg => exact ite2 (fun d4 => out H (Same.refl _) fun z => e3 z.lt3) (fun d4 => absurd (by rw [decide_eq_false (by omega)]; rfl) d4)
  refine iteNS (by omega) ?_
  refine ⟨_, rfl, _, rfl, _, _, _, _, rfl, rfl, SqT.of hr', at0, _, rfl, _, rfl, _, rfl, n, v, v1, sets, k1, a, b, c, rfl, hS, hok, h1, l1, fun r1 H1 s1 q1 => ⟨_, rfl, ?_⟩⟩
  cases r1 with
  | false => exact iteT (iteT (out H1 s1 fun z => absurd (q1.mpr z.ab) (by decide)))
  | true =>
    refine iteF ?_
    refine ⟨_, rfl, _, rfl, _, _, _, _, rfl, rfl, SqT.of (s1 _ _ hr'), at1, _, rfl, _, rfl, _, rfl, n, v, v2, sets, k2, a, c, b, rfl, hS.tk (tk s1), hok, h2.tk (tk s1), l2, fun r2 H2 s2 q2 => ⟨_, rfl, ?_⟩⟩
    have s12 := s1.trans s2
    cases r2 with
    | false => exact iteT (out H2 s12 fun z => absurd (q2.mpr z.ac) (by decide))
    | true =>
      refine iteF ?_
      refine ⟨_, rfl, _, rfl, _, _, _, _, rfl, rfl, SqT.of (s12 _ _ hr'), at2, _, rfl, _, rfl, _, rfl, n, v, v3, sets, k3, b, c, a, rfl, hS.tk (tk s12), hok, h3.tk (tk s12), l3, fun r3 H3 s3 q3 => ?_⟩
      exact q r3 H3 (s12.trans s3) ⟨fun z => ⟨e1, e2, e3, q1.mp rfl, q2.mp rfl, q3.mp z⟩, fun z => q3.mpr z.bc⟩
end UR
namespace UR
open PySem PySem.Spec PyProof.Rows L2
theorem sc_law_cell : FnScope ["_law_script", "_law_k"] ["_law_script", "_law_k"] (defScope (top 42)) := ⟨rfl, rfl, rfl, by decide +kernel, rfl, by decide +kernel, by decide +kernel⟩
set_option maxHeartbeats 8000000 in
theorem cal_law_cell {P : Program} {w : World} {K : PySem.W.Frag} {mg : Str → Option Value} {base : Heap}  (B : Bl mg) (D : DefAt K mg 42 "_law_cell")  :
    Cal P w K mg base (1) "_law_cell" ["_law_script", "_law_k"] (sp_law_cell K) := by
  have sc := sc_law_cell
  refine cal_of D sc (fun kV doc pm an cdv ct us hl => match us, hl with | [_, _], _ => rfl) (fun vs H Q E h => ?_) (fun f cdv A outer s H vs Q E hr h => ?_)
  · obtain ⟨v, k, rfl, ⟨a, ns, rfl, ha, hn⟩, hk, q⟩ := h
    rfl
  obtain ⟨v, k, rfl, ⟨a, ns, rfl, ha, hn⟩, hk, q⟩ := h
  refine ⟨_, (pss_cons (ps_if (pt_cmpR op_lt (pv 1) (pe_callB (call_lenK K) (by rfl) B.len PySem.boot_len (pa_cons (pv 0) pa_nil)) (nomark _)) (pss_one (ps_ret (pe_ix (ix_listK K) (pv 0) (pv 1) (fun _ _ => rfl)))) pss_nil)
    (pss_one (ps_ret pe_int))), ?_⟩
  refine ⟨_, rfl, _, rfl, a, _, rfl, .inl ha, _, _, rfl, rfl, _, rfl, ite2 (fun d => ?_) (fun d => q 0)⟩
  have d1 : (k : Int) < ((ns.map V.int).length : Nat) := of_decide_eq_true d
  rw [List.length_map] at d1
  have d2 : k < ns.length := by omega
  exact ⟨_, rfl, _, rfl, _, _, _, _, rfl, rfl, ha, atI_nat (by rw [List.getElem?_map, List.getElem?_eq_getElem d2]; rfl), q _⟩
end UR
namespace UR
open PySem PySem.Spec PyProof.Rows L2
theorem sc_law_digits : FnScope ["_law_cell_here", "_law_sizes", "_law_row", "_law_size"] ["_law_cell_here", "_law_sizes"] (defScope (top 43)) := ⟨rfl, rfl, rfl, by decide +kernel, rfl, by decide +kernel, by decide +kernel⟩
set_option maxHeartbeats 8000000 in
theorem cal_law_digits {P : Program} {w : World} {K : PySem.W.Frag} {mg : Str → Option Value} {base : Heap}  (B : Bl mg) (D : DefAt K mg 43 "_law_digits")  :
    Cal P w K mg base (1) "_law_digits" ["_law_cell_here", "_law_sizes"] sp_law_digits := by
  have sc := sc_law_digits
  refine cal_of D sc (fun kV doc pm an cdv ct us hl => match us, hl with | [_, _], _ => rfl) (fun vs H Q E h => ?_) (fun f cdv A outer s H vs Q E hr h => ?_)
  · obtain ⟨z, a, ns, rfl, ha, hl, hn, q⟩ := h
    rfl
  obtain ⟨z, a, ns, rfl, ha, hl, hn, q⟩ := h
  refine ⟨_, (pss_cons (ps_set (i := 2) sc.nd rfl (Or.inl rfl) (pe_lst pa_nil))
    (pss_cons (ps_for PassesOwn.never rfl (pi_listK K (pv 1)) (pg_name (i := 3) sc.nd rfl (Or.inl rfl)) (pss_cons (ps_expr (pe_bm PySem.F.plainAttrs_list PySem.F.slot_list_append PySem.F.type_list_append mt_append (pv 2) (pa_cons (pe_op op_mod (pe_callTy call_int1 (by rfl) B.int (by decide +kernel) (pa_cons (pv 0) pa_nil)) (pv 3)) pa_nil)))
      (pss_one (ps_set (i := 0) sc.nd rfl (Or.inl rfl) (pe_op op_fdiv (pv 0) (pv 3))))))
    (pss_one (ps_ret (pv 2))))), ?_⟩
  refine ⟨by show 0 ≤ sizeLine; decide, fun p np => ?_⟩
  have s0 := same_new np (.lst [])
  refine ⟨_, rfl, a, rfl, ⟨_, SqL.of (s0 _ _ ha)⟩, ?_⟩
  refine for_list (xs := ns.map nV) (fun i σ H' => Same H H' ∧ σ.length = 4 ∧ σ[2]? = some (some (.ref p)) ∧ (∃ z : Int, σ[0]? = some (some (.int z))) ∧ ∃ ds, H' p = some (.lst (ds.map nV)) ∧ All2 (fun d n => d < n) ds (ns.take i)) ⟨s0, rfl, rfl, ⟨z, rfl⟩, [], upd_same, .nil⟩
    (fun i σ H' _ g => SqL.of (g.1 _ _ ha)) (fun i x σ H' hi g => ?_) (fun σ H' g => ?_)
  · obtain ⟨s1, p1, p2, ⟨z', p3⟩, ds, p4, p5⟩ := g
    obtain ⟨m, hm, rfl⟩ := map_get hi
    obtain ⟨m1, m2⟩ := hn m (List.mem_of_getElem? hm)
    have hd := p5.length
    rw [List.length_take] at hd
    have m1' : (0 : Int) < (m : Int) := by omega
    have b0 := Int.emod_nonneg z' (Int.ne_of_gt m1')
    have b1 := Int.emod_lt_of_pos z' m1'
    have e : V.int (z' % (m : Int)) = nV (z' % (m : Int)).toNat := by
      show _ = V.int (((z' % (m : Int)).toNat : Nat) : Int)
      rw [Int.toNat_of_nonneg b0]
    refine ⟨_, getS p2 (by decide), .inl ⟨rfl, _, SqL.of p4⟩, _, getS p3 (by decide), .inl ⟨_, rfl, _, setS (by omega), _, _, rfl, rfl, m1', p, ds.map nV, _, rfl, rfl, p4, szl (by rw [List.length_map]; omega), ?_⟩⟩
    refine ⟨_, getS p3 (by decide), _, setS (by omega), _, _, rfl, rfl, ⟨m1', by omega⟩, same_mut s1 np, by rw [List.length_set, List.length_set]; exact p1, getS (getS p2 (by decide)) (by decide), ⟨_, setS (by rw [List.length_set]; omega)⟩, ds ++ [(z' % (m : Int)).toNat], ?_, ?_⟩
    · rw [upd_same, List.map_append]
      show some (HO.lst (ds.map nV ++ [V.int (z' % (m : Int))])) = _
      rw [e]
      rfl
    · rw [List.take_add_one, hm]
      exact p5.snoc (by omega)
  · obtain ⟨s1, p1, p2, _, ds, p4, p5⟩ := g
    rw [List.length_map, List.take_length] at p5
    exact ⟨_, p2, q p ds H' s1 np p4 p5⟩
end UR
namespace UR
open PySem PySem.Spec PyProof.Rows L2
theorem sc_law_rich : FnScope ["_law_cell_here", "_law_low", "_law_high"] ["_law_cell_here"] (defScope (top 44)) := ⟨rfl, rfl, rfl, by decide +kernel, rfl, by decide +kernel, by decide +kernel⟩
set_option maxHeartbeats 8000000 in
theorem cal_law_rich {P : Program} {w : World} {K : PySem.W.Frag} {mg : Str → Option Value} {base : Heap}  (B : Bl mg) (D : DefAt K mg 44 "_law_rich")  :
    Cal P w K mg base (1) "_law_rich" ["_law_cell_here"] sp_law_rich := by
  have sc := sc_law_rich
  refine cal_of D sc (fun kV doc pm an cdv ct us hl => match us, hl with | [_], _ => rfl) (fun vs H Q E h => ?_) (fun f cdv A outer s H vs Q E hr h => ?_)
  · obtain ⟨z, rfl, q⟩ := h
    rfl
  obtain ⟨z, rfl, q⟩ := h
  refine ⟨_, (pss_cons (ps_if (pt_cmpR op_ge (pv 0) (pe_op op_pow pe_int pe_int) (nomark _)) (pss_one (ps_ret (pv 0))) pss_nil)
    (pss_cons (ps_set (i := 1) sc.nd rfl (Or.inl rfl) (pe_op op_mod (pe_callTy call_int1 (by rfl) B.int (by decide +kernel) (pa_cons (pe_op op_add (pe_op op_mul (pv 0) pe_int) pe_int) pa_nil)) pe_int))
    (pss_cons (ps_set (i := 2) sc.nd rfl (Or.inl rfl) (pe_op op_mod (pe_callTy call_int1 (by rfl) B.int (by decide +kernel) (pa_cons (pe_op op_add (pe_op op_add (pe_op op_mul (pv 1) pe_int) (pe_op op_fdiv (pv 0) pe_int)) pe_int) pa_nil)) pe_int))
    (pss_one (ps_ret (pe_op op_add (pe_op op_mul (pv 1) pe_int) (pv 2))))))), ?_⟩
  refine ⟨_, rfl, _, _, rfl, rfl, ⟨by omega, by omega, by decide⟩, _, _, rfl, rfl, _, rfl, ite2 (fun d => ⟨_, rfl, q _⟩) (fun d => ?_)⟩
  refine ⟨_, rfl, _, _, rfl, rfl, .inr ⟨by decide, by decide⟩, _, _, rfl, rfl, .inl ⟨_, rfl, _, _, rfl, rfl, (by decide : (0 : Int) < 2147483647), ?_⟩⟩
  refine ⟨_, rfl, _, _, rfl, rfl, .inr ⟨by decide, by decide⟩, _, rfl, _, _, rfl, rfl, ⟨by decide, by decide⟩, _, _, rfl, rfl, _, _, rfl, rfl, .inl ⟨_, rfl, _, _, rfl, rfl, (by decide : (0 : Int) < 2147483629), ?_⟩⟩
  exact ⟨_, rfl, _, _, rfl, rfl, .inr ⟨by decide, by decide⟩, _, rfl, _, _, rfl, rfl, q _⟩
end UR
namespace UR
open PySem PySem.Spec PyProof.Rows L2
theorem sc_law_order : FnScope ["_law_cell_here", "_law_n", "_law_left", "_law_rest", "_law_order_here", "_law_k", "_law_thing"] ["_law_cell_here", "_law_n"] (defScope (top 45)) := ⟨rfl, rfl, rfl, by decide +kernel, rfl, by decide +kernel, by decide +kernel⟩
set_option maxHeartbeats 8000000 in
theorem cal_law_order {P : Program} {w : World} {K : PySem.W.Frag} {mg : Str → Option Value} {base : Heap}  (B : Bl mg) (D : DefAt K mg 45 "_law_order") (C__law_rich : Cal P w K mg base (1) "_law_rich" ["_law_cell_here"] sp_law_rich) :
    Cal P w K mg base (2) "_law_order" ["_law_cell_here", "_law_n"] sp_law_order := by
  have sc := sc_law_order
  refine cal_of D sc (fun kV doc pm an cdv ct us hl => match us, hl with | [_, _], _ => rfl) (fun vs H Q E h => ?_) (fun f cdv A outer s H vs Q E hr h => ?_)
  · obtain ⟨z, n, rfl, h1, h24, q⟩ := h
    rfl
  obtain ⟨z, n, rfl, h1, h24, q⟩ := h
  refine ⟨_, (pss_cons (ps_setLc (i := 2) (own := [("_law_thing", 6)]) rfl sc.nd rfl rfl (sw_true rfl rfl rfl (by decide +kernel)) (pi_range1 (by rfl) B.range (pa_cons (pv 1) pa_nil)) (blkOk_by (N := ["_law_cell_here", "_law_n", "_law_left", "_law_rest", "_law_order_here", "_law_k", "_law_thing"]) (sc := defScope (top 45)) (by decide +kernel)) (fun _ _ _ _ _ => (pg_name (i := 6) sc.nd rfl (Or.inl rfl))) (fun _ _ _ _ _ => pts_nil) (fun _ _ _ _ _ => (pv 6)))
    (pss_cons (ps_set (i := 3) sc.nd rfl (Or.inl rfl) (pe_cal C__law_rich (hr.mono (by omega)) (by rfl) (pa_cons (pv 0) pa_nil)))
    (pss_cons (ps_set (i := 4) sc.nd rfl (Or.inl rfl) (pe_lst pa_nil))
    (pss_cons (ps_for PassesOwn.never rfl (pi_range1 (by rfl) B.range (pa_cons (pv 1) pa_nil)) (pg_name (i := 5) sc.nd rfl (Or.inl rfl)) (pss_cons (ps_expr (pe_bm PySem.F.plainAttrs_list PySem.F.slot_list_append PySem.F.type_list_append mt_append (pv 4) (pa_cons (pe_bm PySem.F.plainAttrs_list PySem.F.slot_list_pop PySem.F.type_list_pop mt_popAt (pv 2) (pa_cons (pe_op op_mod (pe_callTy call_int1 (by rfl) B.int (by decide +kernel) (pa_cons (pv 3) pa_nil)) (pe_op op_sub (pv 1) (pv 5))) pa_nil)) pa_nil)))
      (pss_cons (ps_set (i := 3) sc.nd rfl (Or.inl rfl) (pe_op op_fdiv (pv 3) (pe_op op_sub (pv 1) (pv 5))))
      (pss_one (ps_if (pt_cmpR op_eq (pv 3) pe_int (nomark _)) (pss_one (ps_set (i := 3) sc.nd rfl (Or.inl rfl) (pe_cal C__law_rich (hr.mono (by omega)) (by rfl) (pa_cons (pe_op op_add (pe_op op_add (pv 0) (pv 5)) pe_int) pa_nil)))) pss_nil)))))
    (pss_one (ps_ret (pe_callTy (call_tupleK K) (by rfl) B.tuple (by decide +kernel) (pa_cons (pv 4) pa_nil)))))))), ?_⟩
  refine ⟨_, rfl, _, rfl, by omega, by omega, fun D nD => ?_⟩
  refine lc_range (lo := 0) (LcInv H D fun i ys _ => ys = (List.range i).map nV) (lc_start nD rfl) (fun i H' hi g => ?_) (fun H1 g => ?_)
  · obtain ⟨g1, g2, ys, g3, g4, g5⟩ := g
    have hi2 : i < n := by omega
    refine ⟨rfl, tyes ⟨_, rfl, lc_put (by omega) g1 g2 g3 g4 ?_⟩⟩
    rw [List.range_succ, List.map_append, ← g5, Int.zero_add]
    rfl
  obtain ⟨_, s1, ys, hD, _, g5⟩ := g
  rw [show ((n : Int)).toNat = n by omega] at g5
  subst g5
  refine ⟨_, rfl, z, rfl, fun z1 => ?_⟩
  refine ⟨by show 0 ≤ sizeLine; decide, fun p np => ?_⟩
  have s2 := same_new np (.lst [])
  have npH : H p = none := s1.free np
  have nDp : D ≠ p := fun e => by rw [e, np] at hD; cases hD
  refine ⟨_, rfl, _, rfl, by omega, by omega, ?_⟩
  refine for_range (lo := 0) (fun i σ H' => Same H H' ∧ σ.length = 7 ∧ σ[0]? = some (some (.int z)) ∧ σ[1]? = some (some (nV n)) ∧ σ[2]? = some (some (.ref D)) ∧ (∃ z3 : Int, σ[3]? = some (some (.int z3))) ∧ σ[4]? = some (some (.ref p)) ∧
    ∃ O L : List Nat, H' D = some (.lst (L.map nV)) ∧ H' p = some (.lst (O.map nV)) ∧ (O ++ L).Perm (List.range n) ∧ O.length = i)
    ⟨s1.trans s2, rfl, rfl, rfl, rfl, ⟨z1, rfl⟩, rfl, [], List.range n, s2 _ _ hD, upd_same, .refl _, rfl⟩ (fun i σ H' hi g => ?_) (fun σ H' g => ?_)
  · obtain ⟨s3, p1, c0, c1, c2, ⟨z3, c3⟩, c4, O, L, hD', hp', hperm, hO⟩ := g
    have hi2 : i < n := by omega
    rw [Int.zero_add]
    have hL : L.length = n - i := by
      have := hperm.length_eq
      rw [List.length_append, List.length_range] at this
      omega
    have r0 : (0 : Int) < (n : Int) - (i : Int) := by omega
    have b0 := Int.emod_nonneg z3 (Int.ne_of_gt r0)
    have b1 := Int.emod_lt_of_pos z3 r0
    have hk : (z3 % ((n : Int) - (i : Int))).toNat < L.length := by omega
    refine ⟨_, getS c4 (by decide), .inl ⟨rfl, _, SqL.of hp'⟩, _, getS c2 (by decide), .inl ⟨rfl, _, SqL.of hD'⟩, _, getS c3 (by decide), .inl ⟨_, rfl, _, getS c1 (by decide), _, setS (by omega), _, _, rfl, rfl, _, _, rfl, rfl, r0, ?_⟩⟩
    refine ⟨D, L.map nV, _, (z3 % ((n : Int) - (i : Int))).toNat, nV L[(z3 % ((n : Int) - (i : Int))).toNat], rfl, rfl, hD', by omega, by omega, seqIx b0 (by rw [List.length_map]; omega), by rw [List.getElem?_map, List.getElem?_eq_getElem hk]; rfl, ?_⟩
    refine ⟨p, O.map nV, _, rfl, rfl, by rw [upd_ne (Ne.symm nDp)]; exact hp', szl (by rw [List.length_map]; omega), ?_⟩
    have s4 : Same H (upd (upd H' D (.lst ((L.map nV).eraseIdx (z3 % ((n : Int) - (i : Int))).toNat))) p (.lst (O.map nV ++ [nV L[(z3 % ((n : Int) - (i : Int))).toNat]]))) := same_mut (same_mut s3 nD) npH
    have fin : ∀ σ' : L2.St, σ'.length = 7 → σ'[0]? = some (some (.int z)) → σ'[1]? = some (some (nV n)) → σ'[2]? = some (some (.ref D)) → (∃ z3 : Int, σ'[3]? = some (some (.int z3))) → σ'[4]? = some (some (.ref p)) →
      Same H (upd (upd H' D (.lst ((L.map nV).eraseIdx (z3 % ((n : Int) - (i : Int))).toNat))) p (.lst (O.map nV ++ [nV L[(z3 % ((n : Int) - (i : Int))).toNat]]))) ∧ σ'.length = 7 ∧ σ'[0]? = some (some (.int z)) ∧ σ'[1]? = some (some (nV n)) ∧ σ'[2]? = some (some (.ref D)) ∧ (∃ z3 : Int, σ'[3]? = some (some (.int z3))) ∧ σ'[4]? = some (some (.ref p)) ∧
      ∃ O' L' : List Nat, (upd (upd H' D (.lst ((L.map nV).eraseIdx (z3 % ((n : Int) - (i : Int))).toNat))) p (.lst (O.map nV ++ [nV L[(z3 % ((n : Int) - (i : Int))).toNat]]))) D = some (.lst (L'.map nV)) ∧
        (upd (upd H' D (.lst ((L.map nV).eraseIdx (z3 % ((n : Int) - (i : Int))).toNat))) p (.lst (O.map nV ++ [nV L[(z3 % ((n : Int) - (i : Int))).toNat]]))) p = some (.lst (O'.map nV)) ∧ (O' ++ L').Perm (List.range n) ∧ O'.length = i + 1 := fun σ' q1 q2 q3 q4 q5 q6 => by
      refine ⟨s4, q1, q2, q3, q4, q5, q6, O ++ [L[(z3 % ((n : Int) - (i : Int))).toNat]], L.eraseIdx (z3 % ((n : Int) - (i : Int))).toNat, ?_, ?_, ?_, by rw [List.length_append, hO]; rfl⟩
      · rw [upd_ne nDp, upd_same, erase_map]
      · rw [upd_same, List.map_append]
        rfl
      · refine List.Perm.trans ?_ hperm
        rw [List.append_assoc]
        exact (erase_perm L _ hk).append_left O
    refine ⟨_, getS c3 (by decide), _, getS c1 (by decide), _, setS (by omega), _, _, rfl, rfl, _, _, rfl, rfl, ⟨r0, by omega⟩, ?_⟩
    refine ⟨_, setS (by rw [List.length_set]; omega), rfl, _, rfl, ite2 (fun _ => ?_) (fun _ => ?_)⟩
    · refine ⟨_, getS (getS c0 (by decide)) (by decide), _, getS (setS (by omega)) (by decide), _, _, rfl, rfl, _, _, rfl, rfl, _, rfl, fun z4 => ?_⟩
      exact fin _ (by rw [List.length_set, List.length_set, List.length_set]; exact p1) (getS (getS (getS c0 (by decide)) (by decide)) (by decide)) (getS (getS (getS c1 (by decide)) (by decide)) (by decide)) (getS (getS (getS c2 (by decide)) (by decide)) (by decide)) ⟨z4, setS (by rw [List.length_set, List.length_set]; omega)⟩ (getS (getS (getS c4 (by decide)) (by decide)) (by decide))
    · exact fin _ (by rw [List.length_set, List.length_set]; exact p1) (getS (getS c0 (by decide)) (by decide)) (getS (getS c1 (by decide)) (by decide)) (getS (getS c2 (by decide)) (by decide)) ⟨_, setS (by rw [List.length_set]; omega)⟩ (getS (getS c4 (by decide)) (by decide))
  · obtain ⟨s3, p1, c0, c1, c2, _, c4, O, L, hD', hp', hperm, hO⟩ := g
    rw [show ((n : Int)).toNat = n by omega] at hO
    have hL : L = [] := by
      have := hperm.length_eq
      rw [List.length_append, List.length_range] at this
      exact List.eq_nil_of_length_eq_zero (by omega)
    subst hL
    rw [List.append_nil] at hperm
    exact ⟨_, c4, p, _, rfl, .inl ⟨SqL.of hp', fun t nt => q (.ref t) O _ (s3.trans (same_new nt _)) ⟨t, rfl, upd_same⟩ hperm⟩⟩
end UR
namespace UR
open PySem PySem.Spec PyProof.Rows L2
theorem sc_law_set : FnScope ["_law_cell_here", "_law_n", "_law_bits", "_law_thing"] ["_law_cell_here", "_law_n"] (defScope (top 46)) := ⟨rfl, rfl, rfl, by decide +kernel, rfl, by decide +kernel, by decide +kernel⟩
set_option maxHeartbeats 8000000 in
theorem cal_law_set {P : Program} {w : World} {K : PySem.W.Frag} {mg : Str → Option Value} {base : Heap}  (B : Bl mg) (D : DefAt K mg 46 "_law_set") (C__law_rich : Cal P w K mg base (1) "_law_rich" ["_law_cell_here"] sp_law_rich) :
    Cal P w K mg base (2) "_law_set" ["_law_cell_here", "_law_n"] sp_law_set := by
  have sc := sc_law_set
  refine cal_of D sc (fun kV doc pm an cdv ct us hl => match us, hl with | [_, _], _ => rfl) (fun vs H Q E h => ?_) (fun f cdv A outer s H vs Q E hr h => ?_)
  · obtain ⟨z, n, rfl, h1, h24, q⟩ := h
    rfl
  obtain ⟨z, n, rfl, h1, h24, q⟩ := h
  refine ⟨_, (pss_cons (ps_set (i := 2) sc.nd rfl (Or.inr rfl) (pe_cal C__law_rich (hr.mono (by omega)) (by rfl) (pa_cons (pv 0) pa_nil)))
    (pss_one (ps_ret (pe_callTy (call_tupleK K) (by rfl) B.tuple (by decide +kernel) (pa_cons (pe_lc (own := [("_law_thing", 3)]) rfl sc.nd (pi_range1 (by rfl) B.range (pa_cons (pv 1) pa_nil)) (blkOk_by (N := ["_law_cell_here", "_law_n", "_law_bits", "_law_thing"]) (sc := defScope (top 46)) (by decide +kernel)) (fun _ _ _ _ _ => (pg_name (i := 3) sc.nd rfl (Or.inl rfl))) (fun _ _ _ _ _ => (pts_one (pt_cmpR op_eq (pe_op op_mod (pe_callTy call_int1 (by rfl) B.int (by decide +kernel) (pa_cons (pe_op op_fdiv (pe_op op_fdiv (pv 2) (pe_op op_add (pv 3) pe_int)) (pe_op op_add pe_int (pe_op op_mul (pv 3) (pv 3)))) pa_nil)) pe_int) pe_int (nomark _)))) (fun _ _ _ _ _ => (pv 3))) pa_nil))))), ?_⟩
  refine ⟨_, rfl, z, rfl, fun z1 => ?_⟩
  refine ⟨_, rfl, _, rfl, by omega, by omega, fun D nD => ?_⟩
  refine lc_range (lo := 0) (LcInv H D fun i ys _ => ∃ l : List Nat, ys = l.map nV ∧ l.Pairwise (· < ·) ∧ ∀ x ∈ l, x < i) (lc_start nD ⟨[], rfl, .nil, fun x hx => absurd hx List.not_mem_nil⟩) (fun i H' hi g => ?_) (fun H1 g => ?_)
  · obtain ⟨g1, g2, ys, g3, g4, l, rfl, l1, l2⟩ := g
    have hi2 : i < n := by omega
    rw [Int.zero_add]
    have m0 : (0 : Int) ≤ (i : Int) * (i : Int) := Int.mul_nonneg (by omega) (by omega)
    have m1 : (i : Int) * (i : Int) ≤ 24 * 24 := Int.mul_le_mul (by omega) (by omega) (by omega) (by omega)
    refine ⟨rfl, _, rfl, _, rfl, _, _, rfl, rfl, _, _, rfl, rfl, ⟨by omega, by omega⟩, _, rfl, _, rfl, _, _, rfl, rfl, .inl ⟨by omega, by omega⟩, _, _, rfl, rfl, _, _, rfl, rfl, ⟨by omega, by omega⟩, .inl ⟨_, rfl, _, _, rfl, rfl, (by decide : (0 : Int) < 2), rfl, _, rfl, ite2 (fun _ => ?_) (fun _ => ?_)⟩⟩
    · refine ⟨_, rfl, lc_put (by omega) g1 g2 g3 g4 ⟨l ++ [i], by rw [List.map_append]; rfl, ?_, fun x hx => ?_⟩⟩
      · rw [List.pairwise_append]
        exact ⟨l1, List.pairwise_singleton _ _, fun x hx y hy => by rw [List.mem_singleton.mp hy]; exact l2 x hx⟩
      · rcases List.mem_append.mp hx with y | y
        · have := l2 x y
          omega
        · rw [List.mem_singleton.mp y]
          omega
    · exact lc_skip g1 g2 g3 g4 ⟨l, rfl, l1, fun x hx => by have := l2 x hx; omega⟩
  obtain ⟨_, s1, ys, hD, _, l, rfl, l1, l2⟩ := g
  refine ⟨D, _, rfl, .inl ⟨SqL.of hD, fun t nt => q (.ref t) l _ (s1.trans (same_new nt _)) ⟨t, rfl, upd_same⟩ ⟨l1, fun x hx => by have := l2 x hx; omega⟩⟩⟩
end UR
namespace UR
open PySem PySem.Spec PyProof.Rows L2
theorem sc_law_stretch : FnScope ["_law_cell_here", "_law_order_here", "_law_d", "_law_low", "_law_high"] ["_law_cell_here", "_law_order_here"] (defScope (top 47)) := ⟨rfl, rfl, rfl, by decide +kernel, rfl, by decide +kernel, by decide +kernel⟩
set_option maxHeartbeats 8000000 in
theorem cal_law_stretch {P : Program} {w : World} {K : PySem.W.Frag} {mg : Str → Option Value} {base : Heap}  (B : Bl mg) (D : DefAt K mg 47 "_law_stretch") (C__law_digits : Cal P w K mg base (1) "_law_digits" ["_law_cell_here", "_law_sizes"] sp_law_digits) (C__law_rich : Cal P w K mg base (1) "_law_rich" ["_law_cell_here"] sp_law_rich) :
    Cal P w K mg base (2) "_law_stretch" ["_law_cell_here", "_law_order_here"] sp_law_stretch := by
  have sc := sc_law_stretch
  refine cal_of D sc (fun kV doc pm an cdv ct us hl => match us, hl with | [_, _], _ => rfl) (fun vs H Q E h => ?_) (fun f cdv A outer s H vs Q E hr h => ?_)
  · obtain ⟨z, n, v, order, rfl, h1, h24, ⟨a, rfl, ha⟩, hp, q⟩ := h
    rfl
  obtain ⟨z, n, v, order, rfl, h1, h24, ⟨a, rfl, ha⟩, hp, q⟩ := h
  refine ⟨_, (pss_cons (ps_set (i := 2) sc.nd rfl (Or.inl rfl) (pe_cal C__law_digits (hr.mono (by omega)) (by rfl) (pa_cons (pe_cal C__law_rich (hr.mono (by omega)) (by rfl) (pa_cons (pv 0) pa_nil)) (pa_cons (pe_lst (pa_cons (pe_callB (call_lenK K) (by rfl) B.len PySem.boot_len (pa_cons (pv 1) pa_nil)) (pa_cons (pe_callB (call_lenK K) (by rfl) B.len PySem.boot_len (pa_cons (pv 1) pa_nil)) pa_nil))) pa_nil))))
    (pss_cons (ps_set (i := 3) sc.nd rfl (Or.inl rfl) (pe_callB (call_min2 rfl) (by rfl) B.min (by decide +kernel) (pa_cons (pe_ix (ix_listK K) (pv 2) pe_int (fun _ _ => rfl)) (pa_cons (pe_ix (ix_listK K) (pv 2) pe_int (fun _ _ => rfl)) pa_nil))))
    (pss_cons (ps_set (i := 4) sc.nd rfl (Or.inl rfl) (pe_callB (call_max2 rfl) (by rfl) B.max (by decide +kernel) (pa_cons (pe_ix (ix_listK K) (pv 2) pe_int (fun _ _ => rfl)) (pa_cons (pe_ix (ix_listK K) (pv 2) pe_int (fun _ _ => rfl)) pa_nil))))
    (pss_one (ps_ret (pe_callTy (call_tupleK K) (by rfl) B.tuple (by decide +kernel) (pa_cons (pe_callB (cr_sortedTuK K) (by rfl) B.sorted (by decide +kernel) (pa_cons (pe_slice (sl_tupAK K) (pv 1) (po_some (pv 3)) (po_some (pe_op op_add (pv 4) pe_int))) pa_nil)) pa_nil))))))), ?_⟩
  have lo : order.length = n := by rw [hp.length_eq, List.length_range]
  refine ⟨_, rfl, z, rfl, fun z1 => ?_⟩
  refine ⟨_, rfl, a, _, rfl, .inr (SqT.of ha), _, rfl, a, _, rfl, .inr (SqT.of ha), by show 2 ≤ sizeLine; decide, fun p np => ?_⟩
  have s0 := same_new np (.lst [.int ((order.map nV).length : Nat), .int ((order.map nV).length : Nat)])
  refine ⟨z1, p, [n, n], rfl, by rw [upd_same, List.length_map, lo]; rfl, by show 2 ≤ 100; omega, fun m hm => ?_, fun r ds H1 s1 nr hds hall => ?_⟩
  · have : m = n := by simpa using hm
    omega
  obtain ⟨d0, d1, rfl⟩ : ∃ d0 d1, ds = [d0, d1] := by
    match ds, hall with
    | _, .cons _ (.cons _ .nil) => exact ⟨_, _, rfl⟩
  refine ⟨_, rfl, _, _, _, _, rfl, rfl, SqL.of hds, at0, _, rfl, _, _, _, _, rfl, rfl, SqL.of hds, at1, _, _, rfl, ?_⟩
  refine ⟨_, rfl, _, _, _, _, rfl, rfl, SqL.of hds, at0, _, rfl, _, _, _, _, rfl, rfl, SqL.of hds, at1, _, _, rfl, ?_⟩
  have s01 := s0.trans s1
  refine ⟨_, rfl, _, rfl, _, rfl, _, rfl, _, _, rfl, rfl, _, rfl, slA_sub (s01 _ _ ha) fun p2 H2 ys s2 h2 hsub => ?_⟩
  obtain ⟨l, hl, rfl⟩ := List.sublist_map_iff.mp hsub
  have ll := hl.length_le
  have ln : l.Nodup := hl.nodup (hp.nodup_iff.mpr List.nodup_range)
  refine ⟨p2, l.map Int.ofNat, rfl, SqT.of (by rw [h2, map_nV]), by rw [List.length_map]; omega, fun ns' p3 hperm hsort np3 => ?_⟩
  obtain ⟨S, e1, e2, e3⟩ := sorted_nat hperm hsort
  have e4 := strict_of e3 (e2.nodup_iff.mpr ln)
  refine ⟨p3, _, rfl, .inl ⟨SqL.of upd_same, fun t nt => ?_⟩⟩
  refine q (.ref t) S _ (s01.trans (s2.trans ((same_new np3 _).trans (same_new nt _)))) ⟨t, rfl, by rw [upd_same, e1]⟩ ⟨e4, fun x hx => List.mem_range.mp (hp.mem_iff.mp (hl.subset (e2.mem_iff.mp hx)))⟩
end UR
namespace UR
open PySem PySem.Spec PyProof.Rows L2
theorem sc_law_table : FnScope ["_law_script", "_law_at", "_law_n", "_law_order_here", "_law_sets", "_law_k", "_law_cell_here"] ["_law_script", "_law_at", "_law_n", "_law_order_here"] (defScope (top 48)) := ⟨rfl, rfl, rfl, by decide +kernel, rfl, by decide +kernel, by decide +kernel⟩
set_option maxHeartbeats 8000000 in
theorem cal_law_table {P : Program} {w : World} {K : PySem.W.Frag} {mg : Str → Option Value} {base : Heap}  (B : Bl mg) (D : DefAt K mg 48 "_law_table") (C__law_cell : Cal P w K mg base (1) "_law_cell" ["_law_script", "_law_k"] (sp_law_cell K)) (C__law_set : Cal P w K mg base (2) "_law_set" ["_law_cell_here", "_law_n"] sp_law_set) (C__law_stretch : Cal P w K mg base (2) "_law_stretch" ["_law_cell_here", "_law_order_here"] sp_law_stretch) :
    Cal P w K mg base (3) "_law_table" ["_law_script", "_law_at", "_law_n", "_law_order_here"] (sp_law_table K) := by
  have sc := sc_law_table
  refine cal_of D sc (fun kV doc pm an cdv ct us hl => match us, hl with | [_, _, _, _], _ => rfl) (fun vs H Q E h => ?_) (fun f cdv A outer s H vs Q E hr h => ?_)
  · obtain ⟨n, s', v, order, rfl, hsc, h1, h24, hv, hp, q⟩ := h
    rfl
  obtain ⟨n, s', v, order, rfl, hsc, h1, h24, hv, hp, q⟩ := h
  refine ⟨_, (pss_cons (ps_set (i := 4) sc.nd rfl (Or.inl rfl) (pe_lst pa_nil))
    (pss_cons (ps_for PassesOwn.never rfl (pi_range1 (by rfl) B.range (pa_cons pe_int pa_nil)) (pg_name (i := 5) sc.nd rfl (Or.inl rfl)) (pss_one (ps_if (pt_cmpR op_lt (pe_op op_add (pv 1) (pv 5)) (pe_callB (call_lenK K) (by rfl) B.len PySem.boot_len (pa_cons (pv 0) pa_nil)) (nomark _)) (pss_cons (ps_set (i := 6) sc.nd rfl (Or.inl rfl) (pe_op op_add (pe_cal C__law_cell (hr.mono (by omega)) (by rfl) (pa_cons (pv 0) (pa_cons (pe_op op_add (pv 1) (pv 5)) pa_nil))) (pv 5)))
        (pss_one (ps_if (pt_cmpR op_eq (pe_op op_mod (pe_callTy call_int1 (by rfl) B.int (by decide +kernel) (pa_cons (pv 6) pa_nil)) pe_int) pe_int (nomark _)) (pss_one (ps_expr (pe_bm PySem.F.plainAttrs_list PySem.F.slot_list_append PySem.F.type_list_append mt_append (pv 4) (pa_cons (pe_cal C__law_set (hr.mono (by omega)) (by rfl) (pa_cons (pe_op op_fdiv (pv 6) pe_int) (pa_cons (pv 2) pa_nil))) pa_nil)))) (pss_one (ps_expr (pe_bm PySem.F.plainAttrs_list PySem.F.slot_list_append PySem.F.type_list_append mt_append (pv 4) (pa_cons (pe_cal C__law_stretch (hr.mono (by omega)) (by rfl) (pa_cons (pe_op op_fdiv (pv 6) pe_int) (pa_cons (pv 3) pa_nil))) pa_nil))))))) pss_nil)))
    (pss_one (ps_ret (pe_callTy (call_tupleK K) (by rfl) B.tuple (by decide +kernel) (pa_cons (pv 4) pa_nil)))))), ?_⟩
  obtain ⟨a, ns, rfl, ha, hns⟩ := id hsc
  refine ⟨by show 0 ≤ sizeLine; decide, fun p np => ?_⟩
  have s0 := same_new np (.lst [])
  refine ⟨_, rfl, by decide, by decide, ?_⟩
  refine for_range (lo := 0) (fun i σ H' => Same H H' ∧ σ.length = 7 ∧ σ[0]? = some (some (.ref a)) ∧ σ[1]? = some (some (nV 4)) ∧ σ[2]? = some (some (nV n)) ∧ σ[3]? = some (some v) ∧ σ[4]? = some (some (.ref p)) ∧
    ∃ ws sets, H' p = some (.lst ws) ∧ All2 (SetIn H') ws sets ∧ sets.length ≤ i ∧ ∀ S ∈ sets, SetN n S) ⟨s0, rfl, rfl, rfl, rfl, rfl, rfl, [], [], upd_same, .nil, Nat.le_refl _, fun S hS => absurd hS List.not_mem_nil⟩ (fun i σ H' hi g => ?_) (fun σ H' g => ?_)
  · obtain ⟨s1, p1, c0, c1, c2, c3, c4, ws, sets, g1, g2, g3, g4⟩ := g
    have hi2 : i < 8 := hi
    have lw := g2.length
    rw [Int.zero_add]
    have fin : ∀ (σ' : L2.St) (x : V) (S : List Nat) (H2 : Hp), Same H' H2 → SetIn H2 x S → SetN n S → σ'.length = 7 → σ'[0]? = some (some (.ref a)) → σ'[1]? = some (some (nV 4)) → σ'[2]? = some (some (nV n)) → σ'[3]? = some (some v) → σ'[4]? = some (some (.ref p)) →
        Same H (upd H2 p (.lst (ws ++ [x]))) ∧ σ'.length = 7 ∧ σ'[0]? = some (some (.ref a)) ∧ σ'[1]? = some (some (nV 4)) ∧ σ'[2]? = some (some (nV n)) ∧ σ'[3]? = some (some v) ∧ σ'[4]? = some (some (.ref p)) ∧
        ∃ ws' sets', (upd H2 p (.lst (ws ++ [x]))) p = some (.lst ws') ∧ All2 (SetIn (upd H2 p (.lst (ws ++ [x])))) ws' sets' ∧ sets'.length ≤ i + 1 ∧ ∀ S ∈ sets', SetN n S := fun σ' x S H2 s2 hx hS q1 q2 q3 q4 q5 q6 => by
      have kk := tk_lst (s2 _ _ g1) (.lst (ws ++ [x]))
      refine ⟨same_mut (s1.trans s2) np, q1, q2, q3, q4, q5, q6, ws ++ [x], sets ++ [S], upd_same, (g2.imp fun _ _ h => h.tk ((tk s2).trans kk)).snoc (hx.tk kk), by rw [List.length_append]; show sets.length + 1 ≤ i + 1; omega, fun T hT => ?_⟩
      rcases List.mem_append.mp hT with y | y
      · exact g4 T y
      · rw [List.mem_singleton.mp y]
        exact hS
    refine ⟨_, getS c1 (by decide), _, setS (by omega), _, _, rfl, rfl, _, getS c0 (by decide), a, _, rfl, .inl (s1.seq ha), _, _, rfl, rfl, _, rfl, ite2 (fun _ => ?_) (fun _ => ?_)⟩
    · have e4 : (4 : Int) + (i : Int) = ((4 + i : Nat) : Int) := by omega
      refine ⟨_, getS c0 (by decide), _, getS c1 (by decide), _, setS (by omega), _, _, rfl, rfl, .ref a, 4 + i, congrArg (fun q => [V.ref a, V.int q]) e4, hsc.same s1, by omega, fun zc => ?_⟩
      refine ⟨_, setS (by omega), _, _, rfl, rfl, ?_⟩
      refine ⟨_, setS (by rw [List.length_set]; omega), .inl ⟨_, rfl, _, _, rfl, rfl, (by decide : (0 : Int) < 8), rfl, _, rfl, ite2 (fun _ => ?_) (fun _ => ?_)⟩⟩
      · refine ⟨_, getS (getS c4 (by decide)) (by decide), .inl ⟨rfl, _, SqL.of g1⟩, _, setS (by rw [List.length_set]; omega), _, _, rfl, rfl, ⟨by decide, by decide⟩, _, getS (getS c2 (by decide)) (by decide), _, n, rfl, h1, h24, fun x S H2 s2 hx hS => ?_⟩
        refine ⟨p, ws, x, rfl, rfl, s2 _ _ g1, szl (by omega), ?_⟩
        exact fin _ x S H2 s2 hx hS (by rw [List.length_set, List.length_set]; exact p1) (getS (getS c0 (by decide)) (by decide)) (getS (getS c1 (by decide)) (by decide)) (getS (getS c2 (by decide)) (by decide)) (getS (getS c3 (by decide)) (by decide)) (getS (getS c4 (by decide)) (by decide))
      · refine ⟨_, getS (getS c4 (by decide)) (by decide), .inl ⟨rfl, _, SqL.of g1⟩, _, setS (by rw [List.length_set]; omega), _, _, rfl, rfl, ⟨by decide, by decide⟩, _, getS (getS c3 (by decide)) (by decide), _, n, v, order, rfl, h1, h24, hv.tk (tk s1), hp, fun x S H2 s2 hx hS => ?_⟩
        refine ⟨p, ws, x, rfl, rfl, s2 _ _ g1, szl (by omega), ?_⟩
        exact fin _ x S H2 s2 hx hS (by rw [List.length_set, List.length_set]; exact p1) (getS (getS c0 (by decide)) (by decide)) (getS (getS c1 (by decide)) (by decide)) (getS (getS c2 (by decide)) (by decide)) (getS (getS c3 (by decide)) (by decide)) (getS (getS c4 (by decide)) (by decide))
    · exact ⟨s1, by rw [List.length_set]; exact p1, getS c0 (by decide), getS c1 (by decide), getS c2 (by decide), getS c3 (by decide), getS c4 (by decide), ws, sets, g1, g2, by omega, g4⟩
  · obtain ⟨s1, p1, c0, c1, c2, c3, c4, ws, sets, g1, g2, g3, g4⟩ := g
    refine ⟨_, c4, p, _, rfl, .inl ⟨SqL.of g1, fun t nt => ?_⟩⟩
    have s5 := same_new nt (.tup ws)
    exact q (.ref t) sets _ (s1.trans s5) ⟨t, ws, rfl, upd_same, g2.imp fun _ _ h => h.tk (tk s5)⟩ ⟨h1, h24, g3, g4⟩
end UR
namespace UR
open PySem PySem.Spec PyProof.Rows L2
theorem sc_law_together : FnScope ["_law_order_here", "_law_chosen", "_law_places", "_law_place"] ["_law_order_here", "_law_chosen"] (defScope (top 49)) := ⟨rfl, rfl, rfl, by decide +kernel, rfl, by decide +kernel, by decide +kernel⟩
set_option maxHeartbeats 8000000 in
theorem cal_law_together {P : Program} {w : World} {K : PySem.W.Frag} {mg : Str → Option Value} {base : Heap}  (B : Bl mg) (D : DefAt K mg 49 "_law_together")  :
    Cal P w K mg base (1) "_law_together" ["_law_order_here", "_law_chosen"] sp_law_together := by
  have sc := sc_law_together
  refine cal_of D sc (fun kV doc pm an cdv ct us hl => match us, hl with | [_, _], _ => rfl) (fun vs H Q E h => ?_) (fun f cdv A outer s H vs Q E hr h => ?_)
  · obtain ⟨n, v, u, order, S, rfl, h24, ⟨a, rfl, ha⟩, hp, ⟨b, rfl, hb⟩, q⟩ := h
    rfl
  obtain ⟨n, v, u, order, S, rfl, h24, ⟨a, rfl, ha⟩, hp, ⟨b, rfl, hb⟩, q⟩ := h
  refine ⟨_, (pss_cons (ps_setLc (i := 2) (own := [("_law_place", 3)]) rfl sc.nd rfl rfl (sw_true rfl rfl rfl (by decide +kernel)) (pi_range1 (by rfl) B.range (pa_cons (pe_callB (call_lenK K) (by rfl) B.len PySem.boot_len (pa_cons (pv 0) pa_nil)) pa_nil)) (blkOk_by (N := ["_law_order_here", "_law_chosen", "_law_places", "_law_place"]) (sc := defScope (top 49)) (by decide +kernel)) (fun _ _ _ _ _ => (pg_name (i := 3) sc.nd rfl (Or.inl rfl))) (fun _ _ _ _ _ => (pts_one (pt_cmpR (op_in_seqK K) (pe_ix (ix_tupK K) (pv 0) (pv 3) (fun _ _ => rfl)) (pv 1) (by with_unfolding_all rfl)))) (fun _ _ _ _ _ => (pv 3)))
    (pss_one (ps_ret (pe_or (pe_cmpR op_lt (pe_callB (call_lenK K) (by rfl) B.len PySem.boot_len (pa_cons (pv 2) pa_nil)) pe_int (nomark _)) (pe_one (pe_cmpR op_eq (pe_op op_sub (pe_ix (ix_listK K) (pv 2) (pe_un un_neg pe_int) (fun _ _ => rfl)) (pe_ix (ix_listK K) (pv 2) pe_int (fun _ _ => rfl))) (pe_op op_sub (pe_callB (call_lenK K) (by rfl) B.len PySem.boot_len (pa_cons (pv 2) pa_nil)) pe_int) (nomark _))))))), ?_⟩
  have lo : order.length = n := by rw [hp.length_eq, List.length_range]
  refine ⟨_, rfl, a, _, rfl, .inr (SqT.of ha), _, rfl, by rw [List.length_map]; omega, by rw [List.length_map]; omega, fun D nD => ?_⟩
  refine lc_range (lo := 0) (LcInv H D fun i ys _ => ys = ((List.range i).filter fun i => decide (order.getD i 0 ∈ S)).map nV) (lc_start nD rfl) (fun i H' hi g => ?_) (fun H1 g => ?_)
  · obtain ⟨g1, g2, ys, g3, g4, g5⟩ := g
    rw [List.length_map] at hi
    have hi2 : i < order.length := by omega
    rw [Int.zero_add]
    refine ⟨rfl, _, rfl, _, rfl, _, _, _, _, rfl, rfl, SqT.of (g2 _ _ ha), atI_nat (atD hi2), _, rfl, b, _, rfl, .inr (SqT.of (g2 _ _ hb)), rfl, flat_nV _, _, rfl, ?_⟩
    rw [inV_nV, if_neg (by decide)]
    by_cases z : order.getD i 0 ∈ S
    · refine ite2 (fun d => ⟨_, rfl, lc_put (by omega) g1 g2 g3 g4 ?_⟩) (fun d => absurd (decide_eq_true z) d)
      rw [range_filter_succ, if_pos (decide_eq_true z), List.map_append, ← g5]
      rfl
    · refine ite2 (fun d => absurd (of_decide_eq_true d) z) (fun d => lc_skip g1 g2 g3 g4 ?_)
      rw [range_filter_succ, if_neg (by rw [decide_eq_false z]; decide), List.append_nil]
      exact g5
  obtain ⟨_, s1, ys, hD, _, g5⟩ := g
  have g6 : ys = (placesIn order S).map nV := by
    rw [g5, List.length_map]
    rfl
  subst g6
  clear g5
  refine ⟨_, rfl, D, _, rfl, .inl (SqL.of hD), _, _, rfl, rfl, ?_⟩
  refine ⟨_, rfl, ite2 (fun d => q true H1 s1 fun _ => together_conv hp (.inl ?_)) (fun d => ?_)⟩
  · have d1 : (((placesIn order S).map nV).length : Int) < 2 := of_decide_eq_true d
    rw [List.length_map] at d1
    omega
  have d2 : 2 ≤ (placesIn order S).length := by
    refine Classical.byContradiction fun z => d (decide_eq_true ?_)
    show (((placesIn order S).map nV).length : Int) < 2
    rw [List.length_map]
    omega
  have ne : placesIn order S ≠ [] := fun z => by rw [z] at d2; simp at d2
  refine ⟨_, rfl, 1, rfl, _, _, _, _, rfl, rfl, SqL.of hD, at_neg1 (last_nV ne), _, rfl, _, _, _, _, rfl, rfl, SqL.of hD, atI_nat (j := 0) (head_nV ne), _, _, rfl, rfl, _, rfl, D, _, rfl, .inl (SqL.of hD), _, _, rfl, rfl, rfl, ?_⟩
  refine q _ H1 s1 fun e => together_conv hp (.inr ?_)
  have e1 := V.int.inj (of_decide_eq_true e)
  rw [List.length_map] at e1
  omega
end UR
namespace UR
open PySem PySem.Spec PyProof.Rows L2
theorem sc_law_fits : FnScope ["_law_order_here", "_law_sets", "_law_chosen"] ["_law_order_here", "_law_sets"] (defScope (top 50)) := ⟨rfl, rfl, rfl, by decide +kernel, rfl, by decide +kernel, by decide +kernel⟩
set_option maxHeartbeats 8000000 in
theorem cal_law_fits {P : Program} {w : World} {K : PySem.W.Frag} {mg : Str → Option Value} {base : Heap}  (B : Bl mg) (D : DefAt K mg 50 "_law_fits") (C__law_together : Cal P w K mg base (1) "_law_together" ["_law_order_here", "_law_chosen"] sp_law_together) :
    Cal P w K mg base (2) "_law_fits" ["_law_order_here", "_law_sets"] sp_law_fits := by
  have sc := sc_law_fits
  refine cal_of D sc (fun kV doc pm an cdv ct us hl => match us, hl with | [_, _], _ => rfl) (fun vs H Q E h => ?_) (fun f cdv A outer s H vs Q E hr h => ?_)
  · obtain ⟨n, v, order, a, ws, sets, rfl, h24, hv, hp, ha, hws, hl, q⟩ := h
    rfl
  obtain ⟨n, v, order, a, ws, sets, rfl, h24, hv, hp, ha, hws, hl, q⟩ := h
  refine ⟨_, (pss_one (ps_ret (pe_cmpR (op_eqDK K hr.units) (pe_lc (own := [("_law_chosen", 2)]) rfl sc.nd (pi_listK K (pv 1)) (blkOk_by (N := ["_law_order_here", "_law_sets", "_law_chosen"]) (sc := defScope (top 50)) (by decide +kernel)) (fun _ _ _ _ _ => (pg_name (i := 2) sc.nd rfl (Or.inl rfl))) (fun _ _ _ _ _ => (pts_one (pt_not (pt_val (pe_cal C__law_together (hr.mono (by omega)) (by rfl) (pa_cons (pv 0) (pa_cons (pv 2) pa_nil))))))) (fun _ _ _ _ _ => (pv 2))) (pe_lst pa_nil) (nomark _)))), ?_⟩
  have lw := hws.length
  refine ⟨_, rfl, a, rfl, ⟨_, SqL.of ha⟩, fun D nD => ?_⟩
  refine lc_list (K := K) (a := a) (xs := ws) (LcInv H D fun i ys H' => ∃ ss, All2 (SetIn H') ys ss ∧ (ys = [] → ∀ S ∈ sets.take i, ConvS (pos order) (List.range n) S)) (lc_start nD ⟨[], .nil, fun _ S hS => by simp at hS⟩) (fun i H' _ g => SqL.of (g.2.1 _ _ ha)) (fun i x H' hi g => ?_) (fun H1 g => ?_)
  · obtain ⟨g1, g2, ys, g3, g4, ss, g5, g6⟩ := g
    obtain ⟨S, hS, hx⟩ := hws.get hi
    have hi2 : i < 5000 := by
      have := (List.getElem?_eq_some_iff.mp hS).1
      omega
    refine ⟨rfl, _, rfl, _, rfl, n, v, x, order, S, rfl, h24, hv.tk (tk g2), hp, hx.tk (tk g2), fun r H2 s2 e => ⟨_, rfl, ?_⟩⟩
    have g7 := g2.trans s2
    cases r with
    | true =>
      refine iteF (lc_skip g1 g7 (s2 _ _ g3) g4 ⟨ss, g5.imp fun _ _ h => h.tk (tk s2), fun z T hT => ?_⟩)
      rw [List.take_add_one, hS] at hT
      rcases List.mem_append.mp hT with y | y
      · exact g6 z T y
      · rw [List.mem_singleton.mp y]
        exact e rfl
    | false =>
      have kk := tk_lst (s2 _ _ g3) (.lst (ys ++ [x]))
      refine iteT ⟨_, rfl, lc_put (by omega) g1 g7 (s2 _ _ g3) g4 ⟨ss ++ [S], (g5.imp fun _ _ h => h.tk ((tk s2).trans kk)).snoc (hx.tk ((tk g7).trans kk)), fun z => absurd z (by simp)⟩⟩
  obtain ⟨_, s1, ys, hD, hly, ss, g5, g6⟩ := g
  rw [lw, List.take_length] at g6
  refine ⟨by show 0 ≤ sizeLine; decide, fun E nE => ?_⟩
  have s2 := same_new nE (.lst [])
  obtain ⟨ds, d1, d2, d3⟩ := dp_sets (K := K) (g5.imp fun _ _ h => h.tk (tk s2))
  refine eq_nil_data (s2 _ _ hD) upd_same d1 d2 (by omega) (q _ _ (s1.trans s2) fun z => g6 (by simpa using z))
end UR
namespace UR
open PySem PySem.Spec PyProof.Rows L2
theorem sc_law_is_chain : FnScope ["_law_sets", "_law_chain", "_law_start", "_law_goal", "_law_third", "_law_k", "_law_index", "_law_thing"] ["_law_sets", "_law_chain", "_law_start", "_law_goal", "_law_third"] (defScope (top 51)) := ⟨rfl, rfl, rfl, by decide +kernel, rfl, by decide +kernel, by decide +kernel⟩
set_option maxHeartbeats 8000000 in
theorem cal_law_is_chain {P : Program} {w : World} {K : PySem.W.Frag} {mg : Str → Option Value} {base : Heap}  (B : Bl mg) (D : DefAt K mg 51 "_law_is_chain")  :
    Cal P w K mg base (1) "_law_is_chain" ["_law_sets", "_law_chain", "_law_start", "_law_goal", "_law_third"] sp_law_is_chain := by
  have sc := sc_law_is_chain
  refine cal_of D sc (fun kV doc pm an cdv ct us hl => match us, hl with | [_, _, _, _, _], _ => rfl) (fun vs H Q E h => ?_) (fun f cdv A outer s H vs Q E hr h => ?_)
  · obtain ⟨n, v, u, sets, ch, a, b, c, rfl, hS, hok, ⟨p, rfl, hp⟩, l, hI, q⟩ := h
    rfl
  obtain ⟨n, v, u, sets, ch, a, b, c, rfl, hS, hok, ⟨p, rfl, hp⟩, l, hI, q⟩ := h
  refine ⟨_, (pss_cons (ps_if (PW.pt (pw_or (pt_cmpR op_eq (pe_callB (call_lenK K) (by rfl) B.len PySem.boot_len (pa_cons (pv 1) pa_nil)) pe_int (nomark _)) (pw_or1 (pt_cmpR (op_neDK K hr.units) (pe_lc (own := [("_law_index", 6)]) rfl sc.nd (pi_tupK K (pv 1)) (blkOk_by (N := ["_law_sets", "_law_chain", "_law_start", "_law_goal", "_law_third", "_law_k", "_law_index", "_law_thing"]) (sc := defScope (top 51)) (by decide +kernel)) (fun _ _ _ _ _ => (pg_name (i := 6) sc.nd rfl (Or.inl rfl))) (fun _ _ _ _ _ => (pts_one (PW.pt (pw_or (pt_cmpR op_lt (pv 6) pe_int (nomark _)) (pw_or1 (pt_cmpR op_ge (pv 6) (pe_callB (call_lenK K) (by rfl) B.len PySem.boot_len (pa_cons (pv 0) pa_nil)) (nomark _))))))) (fun _ _ _ _ _ => (pv 6))) (pe_lst pa_nil) (nomark _))))) (pss_one (ps_ret pe_bl)) pss_nil)
    (pss_cons (ps_if (PW.pt (pw_or (pt_cmpR (op_notIn_seqK K) (pv 2) (pe_ix (ix_tupK K) (pv 0) (pe_ix (ix_tupK K) (pv 1) pe_int (fun _ _ => rfl)) (fun _ _ => rfl)) (by with_unfolding_all rfl)) (pw_or1 (pt_cmpR (op_notIn_seqK K) (pv 3) (pe_ix (ix_tupK K) (pv 0) (pe_ix (ix_tupK K) (pv 1) (pe_un un_neg pe_int) (fun _ _ => rfl)) (fun _ _ => rfl)) (by with_unfolding_all rfl))))) (pss_one (ps_ret pe_bl)) pss_nil)
    (pss_cons (ps_if (pt_cmpR (op_neDK K hr.units) (pe_lc (own := [("_law_index", 6)]) rfl sc.nd (pi_tupK K (pv 1)) (blkOk_by (N := ["_law_sets", "_law_chain", "_law_start", "_law_goal", "_law_third", "_law_k", "_law_index", "_law_thing"]) (sc := defScope (top 51)) (by decide +kernel)) (fun _ _ _ _ _ => (pg_name (i := 6) sc.nd rfl (Or.inl rfl))) (fun _ _ _ _ _ => (pts_one (pt_cmpR (op_in_seqK K) (pv 4) (pe_ix (ix_tupK K) (pv 0) (pv 6) (fun _ _ => rfl)) (by with_unfolding_all rfl)))) (fun _ _ _ _ _ => (pv 6))) (pe_lst pa_nil) (nomark _)) (pss_one (ps_ret pe_bl)) pss_nil)
    (pss_cons (ps_for PassesOwn.never rfl (pi_range2 (by rfl) B.range (pa_cons pe_int (pa_cons (pe_callB (call_lenK K) (by rfl) B.len PySem.boot_len (pa_cons (pv 1) pa_nil)) pa_nil))) (pg_name (i := 5) sc.nd rfl (Or.inr rfl)) (pss_one (ps_if (pt_cmpR (op_eqDK K hr.units) (pe_lc (own := [("_law_thing", 7)]) rfl sc.nd (pi_tupK K (pe_ix (ix_tupK K) (pv 0) (pe_ix (ix_tupK K) (pv 1) (pe_op op_sub (pv 5) pe_int) (fun _ _ => rfl)) (fun _ _ => rfl))) (blkOk_by (N := ["_law_sets", "_law_chain", "_law_start", "_law_goal", "_law_third", "_law_k", "_law_index", "_law_thing"]) (sc := defScope (top 51)) (by decide +kernel)) (fun _ _ _ _ _ => (pg_name (i := 7) sc.nd rfl (Or.inl rfl))) (fun _ _ _ _ _ => (pts_one (pt_cmpR (op_in_seqK K) (pv 7) (pe_ix (ix_tupK K) (pv 0) (pe_ix (ix_tupK K) (pv 1) (pv 5) (fun _ _ => rfl)) (fun _ _ => rfl)) (by with_unfolding_all rfl)))) (fun _ _ _ _ _ => (pv 7))) (pe_lst pa_nil) (nomark _)) (pss_one (ps_ret pe_bl)) pss_nil)))
    (pss_one (ps_ret pe_bl)))))), ?_⟩
  obtain ⟨t, ws, rfl, ht, hws⟩ := id hS
  have lw := hws.length
  have l8 := hok.2.2.1
  have ne := hI.ne
  have cl := List.length_pos_iff.mpr ne
  refine ⟨_, rfl, p, _, rfl, .inr (SqT.of hp), rfl, _, rfl, ite2 (fun d => absurd (V.int.inj (of_decide_eq_true d)) (by rw [List.length_map]; omega)) (fun d => ?_)⟩
  refine ⟨_, rfl, p, rfl, ⟨_, SqT.of hp⟩, fun D nD => ?_⟩
  refine lc_tup (K := K) (a := p) (xs := ch.map nV) (LcInv H D fun i ys _ => ys = []) (lc_start nD rfl) (fun i H' _ g => SqT.of (g.2.1 _ _ hp)) (fun i x H' hi g => ?_) (fun H1 g => ?_)
  · obtain ⟨g1, g2, ys, g3, g4, g5⟩ := g
    obtain ⟨j, hj, rfl⟩ := map_get hi
    have hlt := hI.lt j (List.mem_of_getElem? hj)
    refine ⟨rfl, _, rfl, _, _, rfl, rfl, _, rfl, ite2 (fun d => absurd (of_decide_eq_true d) (by omega)) (fun _ => ?_)⟩
    refine ⟨_, rfl, _, rfl, t, _, rfl, .inr (SqT.of (g2 _ _ ht)), _, _, rfl, rfl, _, rfl, ite2 (fun d => absurd (of_decide_eq_true d) (by omega)) (fun _ => lc_skip g1 g2 g3 g4 g5)⟩
  obtain ⟨_, s1, ys, hD, _, g5⟩ := g
  subst g5
  refine ⟨by show 0 ≤ sizeLine; decide, fun E nE => ?_⟩
  have s2 := same_new nE (.lst [])
  refine ne_nil_nil (s2 _ _ hD) upd_same ⟨_, rfl, iteF ?_⟩
  have s12 := s1.trans s2
  generalize upd H1 E (.lst []) = H2 at s2 s12 ⊢
  -- the ends
  obtain ⟨y0, w0, x0⟩ := tabAt hws (hI.lt _ (List.mem_of_getElem? (by cases ch with | nil => exact absurd rfl ne | cons a r => rfl : ch[0]? = some (ch.headD 0))))
  have lastm : ch.getLastD 0 ∈ ch := by
    rw [List.getLastD_eq_getLast?, List.getLast?_eq_some_getLast ne]
    exact List.getLast_mem ne
  obtain ⟨y9, w9, x9⟩ := tabAt hws (hI.lt _ lastm)
  refine ⟨_, rfl, _, rfl, _, rfl, _, _, _, _, rfl, rfl, SqT.of (s12 _ _ hp), atI_nat (j := 0) (head_nV ne), _, _, _, _, rfl, rfl, SqT.of (s12 _ _ ht), atI_nat w0, y0, _, rfl, .inr (SqT.of (s12 _ _ x0)), rfl, flat_nV _, _, rfl, ?_⟩
  rw [inV_nV]
  refine ite2 (fun z => absurd z (by rw [if_pos rfl, decide_eq_true hI.first]; decide)) (fun _ => ?_)
  refine ⟨_, rfl, _, rfl, _, rfl, 1, rfl, _, _, _, _, rfl, rfl, SqT.of (s12 _ _ hp), at_neg1 (last_nV ne), _, _, _, _, rfl, rfl, SqT.of (s12 _ _ ht), atI_nat w9, y9, _, rfl, .inr (SqT.of (s12 _ _ x9)), rfl, flat_nV _, _, rfl, ?_⟩
  rw [inV_nV]
  refine ite2 (fun z => absurd z (by rw [if_pos rfl, decide_eq_true hI.last]; decide)) (fun _ => ?_)
  -- the one left out
  refine ⟨_, rfl, p, rfl, ⟨_, SqT.of (s12 _ _ hp)⟩, fun F nF => ?_⟩
  refine lc_tup (K := K) (a := p) (xs := ch.map nV) (LcInv H2 F fun i ys _ => ys = []) (lc_start nF rfl) (fun i H' _ g => SqT.of (g.2.1 _ _ (s12 _ _ hp))) (fun i x H' hi g => ?_) (fun H3 g => ?_)
  · obtain ⟨g1, g2, ys, g3, g4, g5⟩ := g
    obtain ⟨j, hj, rfl⟩ := map_get hi
    have jm := List.mem_of_getElem? hj
    obtain ⟨y, w, x⟩ := tabAt hws (hI.lt _ jm)
    have s3 := s12.trans g2
    refine ⟨rfl, _, rfl, _, rfl, _, rfl, _, _, _, _, rfl, rfl, SqT.of (s3 _ _ ht), atI_nat w, y, _, rfl, .inr (SqT.of (s3 _ _ x)), rfl, flat_nV _, _, rfl, ?_⟩
    rw [inV_nV]
    exact ite2 (fun z => absurd z (by rw [if_neg (by decide), decide_eq_false (hI.out _ jm)]; decide)) (fun _ => lc_skip g1 g2 g3 g4 g5)
  obtain ⟨_, s3, ys, hF, _, g5⟩ := g
  subst g5
  refine ⟨by show 0 ≤ sizeLine; decide, fun G nG => ?_⟩
  have s4 := same_new nG (.lst [])
  refine ne_nil_nil (s4 _ _ hF) upd_same ⟨_, rfl, iteF ?_⟩
  have s14 := s12.trans (s3.trans s4)
  generalize upd H3 G (.lst []) = H4 at s4 s14 ⊢
  -- the steps
  refine ⟨_, rfl, p, _, rfl, .inr (SqT.of (s14 _ _ hp)), (1 : Int), ((ch.map nV).length : Int), rfl, ⟨by omega, by omega, by omega, by rw [List.length_map]; omega⟩, ?_⟩
  refine for_range (lo := 1) (fun i σ H' => Same H H' ∧ σ.length = 8 ∧ σ[0]? = some (some (.ref t)) ∧ σ[1]? = some (some (.ref p))) ⟨s14, rfl, rfl, rfl⟩ (fun i σ H' hi g => ?_) (fun σ H' g => q H' g.1)
  obtain ⟨s5, p1, c0, c1⟩ := g
  rw [List.length_map] at hi
  have hi2 : i + 1 < ch.length := by omega
  have m0 : ch.getD i 0 ∈ ch := by rw [getD_at _ (by omega : i < ch.length)]; exact List.getElem_mem _
  have m1 : ch.getD (i + 1) 0 ∈ ch := by rw [getD_at _ hi2]; exact List.getElem_mem _
  obtain ⟨y, w, x⟩ := tabAt hws (hI.lt _ m0)
  obtain ⟨y', w', x'⟩ := tabAt hws (hI.lt _ m1)
  have few := set_few hok (hI.lt _ m0)
  have ei : (1 : Int) + (i : Int) - 1 = (i : Int) := by omega
  have ei1 : (1 : Int) + (i : Int) = ((i + 1 : Nat) : Int) := by omega
  refine ⟨_, getS c0 (by decide), _, getS c1 (by decide), _, setS (by omega), _, _, rfl, rfl, _, _, _, _, rfl, rfl, SqT.of (s5 _ _ hp), by rw [ei]; exact atI_nat (atD (by omega)), _, _, _, _, rfl, rfl, SqT.of (s5 _ _ ht), atI_nat w, y, rfl, ⟨_, SqT.of (s5 _ _ x)⟩, fun Z nZ => ?_⟩
  refine lc_tup (K := K) (a := y) (xs := (st sets (ch.getD i 0)).map nV) (LcInv H' Z fun j ys _ => ys = (((st sets (ch.getD i 0)).take j).filter fun z => decide (z ∈ st sets (ch.getD (i + 1) 0))).map nV) (lc_start nZ rfl) (fun j H2 _ g => SqT.of (g.2.1 _ _ (s5 _ _ x))) (fun j z H2 hj g => ?_) (fun H6 g => ?_)
  · obtain ⟨g1, g2, ys, g3, g4, g5⟩ := g
    obtain ⟨m, hm, rfl⟩ := map_get hj
    have hj2 : j < 24 := by
      have := (List.getElem?_eq_some_iff.mp hm).1
      omega
    have s6 := s5.trans g2
    have d0 := getS (i := 5) (v := some (V.int (1 + (i : Int)))) c0 (by decide)
    have d1 := getS (i := 5) (v := some (V.int (1 + (i : Int)))) c1 (by decide)
    have d5 := setS (i := 5) (v := some (V.int (1 + (i : Int)))) (show 5 < σ.length by omega)
    refine ⟨wipe_one, _, wipeS (by rw [List.length_set]; show 7 < σ.length; omega), _, wipeG d0 (by decide), _, wipeG d1 (by decide), _, wipeG d5 (by decide), _, _, _, _, rfl, rfl, SqT.of (s6 _ _ hp), by rw [ei1]; exact atI_nat (atD hi2), _, _, _, _, rfl, rfl, SqT.of (s6 _ _ ht), atI_nat w', y', _, rfl, .inr (SqT.of (s6 _ _ x')), rfl, flat_nV _, _, rfl, ?_⟩
    rw [inV_nV, if_neg (by decide)]
    refine ite2 (fun d => ⟨_, wipeS (by rw [List.length_set]; show 7 < σ.length; omega), lc_put (by omega) g1 g2 g3 g4 ?_⟩) (fun d => lc_skip g1 g2 g3 g4 ?_)
    · rw [filter_take hm, if_pos d, List.map_append, ← g5]
      rfl
    · rw [filter_take hm, if_neg d, List.append_nil]
      exact g5
  obtain ⟨_, s6, ys, hZ, _, g5⟩ := g
  rw [List.length_map, List.take_length] at g5
  subst g5
  refine ⟨by show 0 ≤ sizeLine; decide, fun Y nY => ?_⟩
  have s7 := same_new nY (.lst [])
  obtain ⟨d1, d2, d3⟩ := dp_ints (K := K) (H := upd H6 Y (.lst [])) ((st sets (ch.getD i 0)).filter fun z => decide (z ∈ st sets (ch.getD (i + 1) 0)))
  refine eq_nil_data (s7 _ _ hZ) upd_same d1 d2 (by omega) ⟨_, rfl, ?_⟩
  obtain ⟨m, mm1, mm2⟩ := steps_iff.mp hI.steps i hi2
  have hne : ((st sets (ch.getD i 0)).filter fun z => decide (z ∈ st sets (ch.getD (i + 1) 0))) ≠ [] := List.ne_nil_of_mem (List.mem_filter.mpr ⟨mm1, decide_eq_true mm2⟩)
  refine ite2 (fun d => ?_) (fun _ => ⟨s5.trans (s6.trans s7), by rw [List.length_set]; exact p1, getS c0 (by decide), getS c1 (by decide)⟩)
  exact absurd (List.map_eq_nil_iff.mp (List.isEmpty_iff.mp d)) hne
end UR
namespace UR
open PySem PySem.Spec PyProof.Rows L2
theorem sc_law_is_paper : FnScope ["_law_n", "_law_sets", "_law_value", "_law_word", "_law_things", "_law_chains", "_law_a", "_law_b", "_law_c"] ["_law_n", "_law_sets", "_law_value"] (defScope (top 52)) := ⟨rfl, rfl, rfl, by decide +kernel, rfl, by decide +kernel, by decide +kernel⟩
set_option maxHeartbeats 8000000 in
theorem cal_law_is_paper {P : Program} {w : World} {K : PySem.W.Frag} {mg : Str → Option Value} {base : Heap}  (B : Bl mg) (D : DefAt K mg 52 "_law_is_paper") (C__law_is_chain : Cal P w K mg base (1) "_law_is_chain" ["_law_sets", "_law_chain", "_law_start", "_law_goal", "_law_third"] sp_law_is_chain) :
    Cal P w K mg base (2) "_law_is_paper" ["_law_n", "_law_sets", "_law_value"] sp_law_is_paper := by
  have sc := sc_law_is_paper
  refine cal_of D sc (fun kV doc pm an cdv ct us hl => match us, hl with | [_, _, _], _ => rfl) (fun vs H Q E h => ?_) (fun f cdv A outer s H vs Q E hr h => ?_)
  · obtain ⟨n, v, u, sets, a, b, c, k1, k2, k3, rfl, hS, hok, ⟨p, t, r, rfl, hp, ht, r', v1, v2, v3, rfl, hr', h1, h2, h3⟩, l1, l2, l3, hI, q⟩ := h
    rfl
  obtain ⟨n, v, u, sets, a, b, c, k1, k2, k3, rfl, hS, hok, ⟨p, t, r, rfl, hp, ht, r', v1, v2, v3, rfl, hr', h1, h2, h3⟩, l1, l2, l3, hI, q⟩ := h
  refine ⟨_, (pss_cons (ps_asg (pv 2) (pg_tupK K 3 rfl (pgs_cons (pg_name (i := 3) sc.nd rfl (Or.inl rfl) ) (pgs_cons (pg_name (i := 4) sc.nd rfl (Or.inl rfl) ) (pgs_cons (pg_name (i := 5) sc.nd rfl (Or.inl rfl) ) pgs_nil)))))
    (pss_cons (ps_if (PW.pt (pw_or (pt_cmpR op_ne (pv 3) pe_str (nomark _)) (pw_or (pt_cmpR op_ne (pe_callB (call_lenK K) (by rfl) B.len PySem.boot_len (pa_cons (pv 4) pa_nil)) pe_int (nomark _)) (pw_or1 (pt_cmpR op_ne (pe_callB (call_lenK K) (by rfl) B.len PySem.boot_len (pa_cons (pv 5) pa_nil)) pe_int (nomark _)))))) (pss_one (ps_ret pe_bl)) pss_nil)
    (pss_cons (ps_asg (pv 4) (pg_tupK K 3 rfl (pgs_cons (pg_name (i := 6) sc.nd rfl (Or.inl rfl) ) (pgs_cons (pg_name (i := 7) sc.nd rfl (Or.inl rfl) ) (pgs_cons (pg_name (i := 8) sc.nd rfl (Or.inl rfl) ) pgs_nil)))))
    (pss_cons (ps_if (pt_not (PW.pt (pw_and (pt_cmpR op_le pe_int (pv 6) (nomark _)) (pw_and (pt_cmpR op_lt (pv 6) (pv 7) (nomark _)) (pw_and (pt_cmpR op_lt (pv 7) (pv 8) (nomark _)) (pw_and1 (pt_cmpR op_lt (pv 8) (pv 0) (nomark _)))))))) (pss_one (ps_ret pe_bl)) pss_nil)
    (pss_cons (ps_if (PW.pt (pw_or (pt_not (pt_val (pe_cal C__law_is_chain (hr.mono (by omega)) (by rfl) (pa_cons (pv 1) (pa_cons (pe_ix (ix_tupK K) (pv 5) pe_int (fun _ _ => rfl)) (pa_cons (pv 6) (pa_cons (pv 7) (pa_cons (pv 8) pa_nil)))))))) (pw_or1 (pt_not (pt_val (pe_cal C__law_is_chain (hr.mono (by omega)) (by rfl) (pa_cons (pv 1) (pa_cons (pe_ix (ix_tupK K) (pv 5) pe_int (fun _ _ => rfl)) (pa_cons (pv 6) (pa_cons (pv 8) (pa_cons (pv 7) pa_nil))))))))))) (pss_one (ps_ret pe_bl)) pss_nil)
    (pss_one (ps_ret (pe_cal C__law_is_chain (hr.mono (by omega)) (by rfl) (pa_cons (pv 1) (pa_cons (pe_ix (ix_tupK K) (pv 5) pe_int (fun _ _ => rfl)) (pa_cons (pv 7) (pa_cons (pv 8) (pa_cons (pv 6) pa_nil))))))))))))), ?_⟩
  have e1 := hI.lt1
  have e2 := hI.lt2
  have e3 := hI.lt3
  refine ⟨_, rfl, p, _, rfl, SqT.of hp, rfl, _, _, rfl, _, _, rfl, _, _, rfl, rfl, ?_⟩
  refine ⟨_, rfl, rfl, _, rfl, iteF ⟨_, rfl, t, _, rfl, .inr (SqT.of ht), rfl, _, rfl, iteF ⟨_, rfl, r', _, rfl, .inr (SqT.of hr'), rfl, _, rfl, iteF ?_⟩⟩⟩
  refine ⟨_, rfl, t, _, rfl, SqT.of ht, rfl, _, _, rfl, _, _, rfl, _, _, rfl, rfl, ?_⟩
  refine ⟨_, rfl, _, _, rfl, rfl, _, rfl, ite2 (fun d1 => ?_) (fun d1 => absurd (decide_eq_true (by omega)) d1)⟩
  refine ⟨_, rfl, _, rfl, _, _, rfl, rfl, _, rfl, ite2 (fun d2 => ?_) (fun d2 => absurd (decide_eq_true (by omega)) d2)⟩
  refine ⟨_, rfl, _, rfl, _, _, rfl, rfl, _, rfl, ite2 (fun d3 => ?_) (fun d3 => absurd (decide_eq_true (by omega)) d3)⟩
  refine ⟨_, rfl, _, rfl, _, _, rfl, rfl, _, rfl, iteNS (by omega) ?_⟩
  refine ⟨_, rfl, _, rfl, _, _, _, _, rfl, rfl, SqT.of hr', at0, _, rfl, _, rfl, _, rfl, n, v, v1, sets, k1, a, b, c, rfl, hS, hok, h1, l1, hI.ab, fun H1 s1 => ⟨_, rfl, iteF ?_⟩⟩
  refine ⟨_, rfl, _, rfl, _, _, _, _, rfl, rfl, SqT.of (s1 _ _ hr'), at1, _, rfl, _, rfl, _, rfl, n, v, v2, sets, k2, a, c, b, rfl, hS.tk (tk s1), hok, h2.tk (tk s1), l2, hI.ac, fun H2 s2 => ⟨_, rfl, iteF ?_⟩⟩
  have s12 := s1.trans s2
  exact ⟨_, rfl, _, rfl, _, _, _, _, rfl, rfl, SqT.of (s12 _ _ hr'), at2, _, rfl, _, rfl, _, rfl, n, v, v3, sets, k3, b, c, a, rfl, hS.tk (tk s12), hok, h3.tk (tk s12), l3, hI.bc, fun H3 s3 => q H3 (s12.trans s3)⟩
end UR
namespace UR
open PySem PySem.Spec PyProof.Rows L2
theorem sc_law : FnScope ["_law_script", "_law_d", "_law_n", "_law_order_here", "_law_sets", "_law_told", "_law_others", "_law_e", "_law_forged", "_law_used", "_law_index", "_law_k", "_law_other", "_law_chain"] ["_law_script"] (defScope (top 53)) := ⟨rfl, rfl, rfl, by decide +kernel, rfl, by decide +kernel, by decide +kernel⟩
set_option maxHeartbeats 8000000 in
theorem fn_law {P : Program} {w : World} {K : PySem.W.Frag} {mg : Str → Option Value} {base : Heap}  (B : Bl mg) {fa : Addr} {fd : FuncData} (F : FunD K "law" "law" (defArgs (top 53)) (defBody (top 53)) (defScope (top 53)) [] [] fa fd) (C__law_cell : Cal P w K mg base (1) "_law_cell" ["_law_script", "_law_k"] (sp_law_cell K)) (C__law_digits : Cal P w K mg base (1) "_law_digits" ["_law_cell_here", "_law_sizes"] sp_law_digits) (C__law_fits : Cal P w K mg base (2) "_law_fits" ["_law_order_here", "_law_sets"] sp_law_fits) (C__law_is_paper : Cal P w K mg base (2) "_law_is_paper" ["_law_n", "_law_sets", "_law_value"] sp_law_is_paper) (C__law_order : Cal P w K mg base (2) "_law_order" ["_law_cell_here", "_law_n"] sp_law_order) (C__law_rich : Cal P w K mg base (1) "_law_rich" ["_law_cell_here"] sp_law_rich) (C__law_table : Cal P w K mg base (3) "_law_table" ["_law_script", "_law_at", "_law_n", "_law_order_here"] (sp_law_table K)) (C_is_paper : Cal P w K mg base (4) "is_paper" ["n", "sets", "value"] sp_is_paper) (C_paper_for : Cal P w K mg base (123) "paper_for" ["n", "sets"] sp_paper_for) (C_tree_of : Cal P w K mg base (122) "tree_of" ["n", "sets"] sp_tree_of) :
    FnOk P w K mg base CX0 (130) fa fd ["_law_script"] (sp_law K) := by
  have sc := sc_law
  refine fn_of' F sc (fun vs H Q E h => ?_) (fun f cdv A outer s H vs Q E hr h => ?_)
  · obtain ⟨v, rfl, hsc, q⟩ := h
    rfl
  obtain ⟨v, rfl, hsc, q⟩ := h
  refine ⟨_, (pss_cons (ps_set (i := 1) sc.nd rfl (Or.inl rfl) (pe_cal C__law_digits (hr.mono (by omega)) (by rfl) (pa_cons (pe_cal C__law_rich (hr.mono (by omega)) (by rfl) (pa_cons (pe_cal C__law_cell (hr.mono (by omega)) (by rfl) (pa_cons (pv 0) (pa_cons pe_int pa_nil))) pa_nil)) (pa_cons (pe_lst (pa_cons pe_int (pa_cons pe_int (pa_cons pe_int pa_nil)))) pa_nil))))
    (pss_cons (ps_set (i := 2) sc.nd rfl (Or.inr rfl) (pe_ix (ix_listK K) (pe_lst (pa_cons (pe_op op_add pe_int (pe_ix (ix_listK K) (pv 1) pe_int (fun _ _ => rfl))) (pa_cons (pe_op op_add pe_int (pe_ix (ix_listK K) (pv 1) pe_int (fun _ _ => rfl))) pa_nil))) (pe_callTy call_int1 (by rfl) B.int (by decide +kernel) (pa_cons (pe_cmpR op_eq (pe_ix (ix_listK K) (pv 1) pe_int (fun _ _ => rfl)) pe_int (nomark _)) pa_nil)) (fun _ _ => rfl)))
    (pss_cons (ps_set (i := 3) sc.nd rfl (Or.inl rfl) (pe_cal C__law_order (hr.mono (by omega)) (by rfl) (pa_cons (pe_cal C__law_cell (hr.mono (by omega)) (by rfl) (pa_cons (pv 0) (pa_cons pe_int pa_nil))) (pa_cons (pv 2) pa_nil))))
    (pss_cons (ps_set (i := 4) sc.nd rfl (Or.inr rfl) (pe_cal C__law_table (hr.mono (by omega)) (by rfl) (pa_cons (pv 0) (pa_cons pe_int (pa_cons (pv 2) (pa_cons (pv 3) pa_nil))))))
    (pss_cons (ps_set (i := 5) sc.nd rfl (Or.inl rfl) (pe_cal C_paper_for (hr.mono (by omega)) (by rfl) (pa_cons (pv 2) (pa_cons (pv 4) pa_nil))))
    (pss_cons (ps_if (pt_cmpR op_ne (pe_cmpR op_isN (pv 5) pe_non (nomark _)) (pe_cmpR op_notN (pe_cal C_tree_of (hr.mono (by omega)) (by rfl) (pa_cons (pv 2) (pa_cons (pv 4) pa_nil))) pe_non (nomark _)) (nomark _)) (pss_one (ps_ret pe_bl)) pss_nil)
    (pss_cons (ps_set (i := 6) sc.nd rfl (Or.inl rfl) (pe_op op_cat (pe_lc (own := [("_law_k", 11)]) rfl sc.nd (pi_range1 (by rfl) B.range (pa_cons pe_int pa_nil)) (blkOk_by (N := ["_law_script", "_law_d", "_law_n", "_law_order_here", "_law_sets", "_law_told", "_law_others", "_law_e", "_law_forged", "_law_used", "_law_index", "_law_k", "_law_other", "_law_chain"]) (sc := defScope (top 53)) (by decide +kernel)) (fun _ _ _ _ _ => (pg_name (i := 11) sc.nd rfl (Or.inl rfl))) (fun _ _ _ _ _ => pts_nil) (fun _ _ _ _ _ => (pe_cal C__law_order (hr.mono (by omega)) (by rfl) (pa_cons (pe_op op_add (pe_cal C__law_cell (hr.mono (by omega)) (by rfl) (pa_cons (pv 0) (pa_cons pe_int pa_nil))) (pv 11)) (pa_cons (pv 2) pa_nil))))) (pe_lst (pa_cons (pv 3) pa_nil))))
    (pss_cons (ps_if (pt_cmpR op_isN (pv 5) pe_non (nomark _)) (pss_cons (ps_set (i := 7) sc.nd rfl (Or.inl rfl) (pe_cal C__law_digits (hr.mono (by omega)) (by rfl) (pa_cons (pe_cal C__law_rich (hr.mono (by omega)) (by rfl) (pa_cons (pe_cal C__law_cell (hr.mono (by omega)) (by rfl) (pa_cons (pv 0) (pa_cons pe_int pa_nil))) pa_nil)) (pa_cons (pe_lst (pa_cons (pv 2) (pa_cons (pv 2) (pa_cons (pv 2) (pa_cons pe_int (pa_cons pe_int (pa_cons pe_int (pa_cons pe_int (pa_cons pe_int pa_nil))))))))) pa_nil))))
      (pss_cons (ps_set (i := 8) sc.nd rfl (Or.inl rfl) (pe_tup (pa_cons pe_str (pa_cons (pe_callTy (call_tupleK K) (by rfl) B.tuple (by decide +kernel) (pa_cons (pe_callB (cr_sortedK K) (by rfl) B.sorted (by decide +kernel) (pa_cons (pe_slice (sl_listK K) (pv 7) po_none (po_some pe_int)) pa_nil)) pa_nil)) (pa_cons (pe_tup (pa_cons (pe_tup (pa_cons (pe_ix (ix_listK K) (pv 7) pe_int (fun _ _ => rfl)) (pa_cons (pe_ix (ix_listK K) (pv 7) pe_int (fun _ _ => rfl)) pa_nil))) (pa_cons (pe_tup (pa_cons (pe_ix (ix_listK K) (pv 7) pe_int (fun _ _ => rfl)) pa_nil)) (pa_cons (pe_tup (pa_cons (pe_ix (ix_listK K) (pv 7) pe_int (fun _ _ => rfl)) (pa_cons (pe_ix (ix_listK K) (pv 7) pe_int (fun _ _ => rfl)) pa_nil))) pa_nil)))) pa_nil)))))
      (pss_one (ps_ret (pe_cmpR op_isBl (pe_cal C_is_paper (hr.mono (by omega)) (by rfl) (pa_cons (pv 2) (pa_cons (pv 4) (pa_cons (pv 8) pa_nil)))) pe_bl (nomark _)))))) pss_nil)
    (pss_cons (ps_if (PW.pt (pw_or (pt_not (pt_val (pe_callB (call_isiKK K) (by rfl) B.isi (by decide +kernel) (pa_cons (pe_ix (ix_tupK K) (pv 5) pe_int (fun _ _ => rfl)) (pa_cons (pe_bltn (v := .ty "tuple") (u := .type "tuple") (by rfl) B.tuple (by decide +kernel) rfl) pa_nil))))) (pw_or (pt_not (pt_val (pe_callB (call_isiKK K) (by rfl) B.isi (by decide +kernel) (pa_cons (pe_ix (ix_tupK K) (pv 5) pe_int (fun _ _ => rfl)) (pa_cons (pe_bltn (v := .ty "tuple") (u := .type "tuple") (by rfl) B.tuple (by decide +kernel) rfl) pa_nil))))) (pw_or1 (pt_cmpR (op_neDK K hr.units) (pe_lc (own := [("_law_chain", 13)]) rfl sc.nd (pi_tupK K (pe_ix (ix_tupK K) (pv 5) pe_int (fun _ _ => rfl))) (blkOk_by (N := ["_law_script", "_law_d", "_law_n", "_law_order_here", "_law_sets", "_law_told", "_law_others", "_law_e", "_law_forged", "_law_used", "_law_index", "_law_k", "_law_other", "_law_chain"]) (sc := defScope (top 53)) (by decide +kernel)) (fun _ _ _ _ _ => (pg_name (i := 13) sc.nd rfl (Or.inl rfl))) (fun _ _ _ _ _ => (pts_one (pt_not (pt_val (pe_callB (call_isiKK K) (by rfl) B.isi (by decide +kernel) (pa_cons (pv 13) (pa_cons (pe_bltn (v := .ty "tuple") (u := .type "tuple") (by rfl) B.tuple (by decide +kernel) rfl) pa_nil))))))) (fun _ _ _ _ _ => (pv 13))) (pe_lst pa_nil) (nomark _)))))) (pss_one (ps_ret pe_bl)) pss_nil)
    (pss_cons (ps_if (PW.pt (pw_or (pt_not (pt_val (pe_cal C__law_is_paper (hr.mono (by omega)) (by rfl) (pa_cons (pv 2) (pa_cons (pv 4) (pa_cons (pv 5) pa_nil)))))) (pw_or1 (pt_cmpR op_notBl (pe_cal C_is_paper (hr.mono (by omega)) (by rfl) (pa_cons (pv 2) (pa_cons (pv 4) (pa_cons (pv 5) pa_nil)))) pe_bl (nomark _))))) (pss_one (ps_ret pe_bl)) pss_nil)
    (pss_cons (ps_set (i := 9) sc.nd rfl (Or.inr rfl) (pe_lc (own := [("_law_index", 10)]) rfl sc.nd (pi_tupK K (pe_op (op_catAK K) (pe_op (op_catAK K) (pe_ix (ix_tupK K) (pe_ix (ix_tupK K) (pv 5) pe_int (fun _ _ => rfl)) pe_int (fun _ _ => rfl)) (pe_ix (ix_tupK K) (pe_ix (ix_tupK K) (pv 5) pe_int (fun _ _ => rfl)) pe_int (fun _ _ => rfl))) (pe_ix (ix_tupK K) (pe_ix (ix_tupK K) (pv 5) pe_int (fun _ _ => rfl)) pe_int (fun _ _ => rfl)))) (blkOk_by (N := ["_law_script", "_law_d", "_law_n", "_law_order_here", "_law_sets", "_law_told", "_law_others", "_law_e", "_law_forged", "_law_used", "_law_index", "_law_k", "_law_other", "_law_chain"]) (sc := defScope (top 53)) (by decide +kernel)) (fun _ _ _ _ _ => (pg_name (i := 10) sc.nd rfl (Or.inl rfl))) (fun _ _ _ _ _ => pts_nil) (fun _ _ _ _ _ => (pe_ix (ix_tupK K) (pv 4) (pv 10) (fun _ _ => rfl)))))
    (pss_one (ps_ret (pe_cmpR (op_eqDK K hr.units) (pe_lc (own := [("_law_other", 12)]) rfl sc.nd (pi_listK K (pv 6)) (blkOk_by (N := ["_law_script", "_law_d", "_law_n", "_law_order_here", "_law_sets", "_law_told", "_law_others", "_law_e", "_law_forged", "_law_used", "_law_index", "_law_k", "_law_other", "_law_chain"]) (sc := defScope (top 53)) (by decide +kernel)) (fun _ _ _ _ _ => (pg_name (i := 12) sc.nd rfl (Or.inl rfl))) (fun _ _ _ _ _ => (pts_one (pt_val (pe_cal C__law_fits (hr.mono (by omega)) (by rfl) (pa_cons (pv 12) (pa_cons (pv 9) pa_nil)))))) (fun _ _ _ _ _ => (pv 12))) (pe_lst pa_nil) (nomark _))))))))))))))), ?_⟩
  -- sizes
  refine ⟨_, rfl, v, 0, rfl, hsc, by omega, fun z0 => ⟨z0, rfl, fun z1 => ⟨by show 3 ≤ sizeLine; decide, fun p0 np0 => ?_⟩⟩⟩
  have s0 := same_new np0 (.lst [.int 9, .int 16, .int 12])
  refine ⟨z1, p0, [9, 16, 12], rfl, upd_same, by decide, by decide, fun r ds H1 s1 _ hds hall => ?_⟩
  obtain ⟨d0, d1, d2, rfl, b0, b1, b2⟩ : ∃ d0 d1 d2, ds = [d0, d1, d2] ∧ d0 < 9 ∧ d1 < 16 ∧ d2 < 12 := by
    match ds, hall with
    | _, .cons x0 (.cons x1 (.cons x2 .nil)) => exact ⟨_, _, _, rfl, x0, x1, x2⟩
  clear hall
  have s01 := s0.trans s1
  -- n
  refine ⟨_, rfl, _, _, _, _, rfl, rfl, SqL.of hds, at0, _, _, rfl, rfl, _, rfl, _, _, _, _, rfl, rfl, SqL.of hds, at2, _, _, rfl, rfl, by show 2 ≤ sizeLine; decide, fun p1 np1 => ?_⟩
  have s2 := same_new np1 (.lst [.int (1 + (d0 : Int)), .int (13 + (d2 : Int))])
  obtain ⟨n, h1, h24, hn⟩ : ∃ n : Nat, 1 ≤ n ∧ n ≤ 24 ∧ atI [V.int (1 + (d0 : Int)), V.int (13 + (d2 : Int))] (if decide (V.int (d1 : Int) = V.int 0) = true then 1 else 0) = some (nV n) := by
    by_cases e : decide (V.int (d1 : Int) = V.int 0) = true
    · rw [if_pos e]
      refine ⟨13 + d2, by omega, by omega, ?_⟩
      rw [show nV (13 + d2) = V.int (13 + (d2 : Int)) from congrArg V.int (by omega)]
      exact at1
    · rw [if_neg e]
      refine ⟨1 + d0, by omega, by omega, ?_⟩
      rw [show nV (1 + d0) = V.int (1 + (d0 : Int)) from congrArg V.int (by omega)]
      exact at0
  refine ⟨_, rfl, _, _, _, _, rfl, rfl, SqL.of (s2 _ _ hds), at1, rfl, .inr ⟨_, rfl, _, _, _, _, rfl, rfl, SqL.of upd_same, hn, ?_⟩⟩
  have s02 := s01.trans s2
  generalize upd H1 p1 (.lst [.int (1 + (d0 : Int)), .int (13 + (d2 : Int))]) = H2 at s02 ⊢
  clear s2 hn
  -- the order, the sets
  refine ⟨_, rfl, v, 1, rfl, hsc.same s02, by omega, fun z2 => ⟨_, rfl, z2, n, rfl, h1, h24, fun ou order H3 s3 hord hperm => ?_⟩⟩
  have s03 := s02.trans s3
  refine ⟨_, rfl, _, rfl, _, rfl, n, v, ou, order, rfl, hsc.same s03, h1, h24, hord, hperm, fun sv sets H4 s4 hsets hok => ?_⟩
  have s04 := s03.trans s4
  have hord4 := hord.tk (tk s4)
  refine ⟨_, rfl, _, rfl, n, sv, sets, rfl, hsets, hok, fun hfit H5 s5 => ?_, fun u a b c k1 k2 k3 H5 no s5 hform hsh hp => ?_⟩
  · -- no paper
    obtain ⟨fo, fi, ff⟩ := id hfit
    have s05 := s04.trans s5
    refine ⟨_, rfl, rfl, _, rfl, _, rfl, n, sv, sets, rfl, hsets.tk (tk s5), hok, fun no H6 s6 => absurd ff (no fo fi), fun T hT w H6 s6 hw => ?_⟩
    refine ⟨rfl, rfl, _, rfl, ite2 (fun d => absurd d ?_) (fun _ => ?_)⟩
    · rw [decide_eq_false (tree_not_non hw)]
      decide
    have s46 := s5.trans s6
    have s06 := s04.trans s46
    -- the other orders
    refine ⟨_, rfl, by decide, by decide, fun D nD => ?_⟩
    refine lc_range (lo := 0) (LcInv H6 D fun i ys H' => True) (lc_start nD trivial) (fun i H' hi g => ?_) (fun H7 g => ?_)
    · obtain ⟨g1, g2, ys, g3, g4, _⟩ := g
      have hi2 : i < 8 := hi
      refine ⟨rfl, tyes ⟨_, rfl, v, 2, rfl, hsc.same (s06.trans g2), by omega, fun z => ⟨_, rfl, _, _, rfl, rfl, _, rfl, _, n, rfl, h1, h24, fun x o H8 s8 hx ho => ?_⟩⟩⟩
      exact lc_put (by omega) g1 (g2.trans s8) (s8 _ _ g3) g4 trivial
    obtain ⟨_, s7, ys, hD, hly, _⟩ := g
    have hly8 : ys.length ≤ 8 := hly
    refine ⟨_, rfl, by show 1 ≤ sizeLine; decide, fun o1 no1 => ?_⟩
    have s8 := same_new no1 (.lst [ou])
    refine ⟨D, o1, _, _, rfl, rfl, s8 _ _ hD, upd_same, sz (by show ys.length + 1 ≤ 100000; omega), fun o2 no2 => ?_⟩
    have s9 := same_new no2 (.lst (ys ++ [ou]))
    have s49 := s46.trans (s7.trans (s8.trans s9))
    generalize upd (upd H7 o1 (.lst [ou])) o2 (.lst (ys ++ [ou])) = H9 at s49 ⊢
    -- a forged paper
    refine ⟨_, rfl, rfl, _, rfl, iteT ?_⟩
    refine ⟨_, rfl, v, 3, rfl, hsc.same (s04.trans s49), by omega, fun z3 => ⟨z3, rfl, fun z4 => ⟨_, rfl, _, rfl, _, rfl, by show 8 ≤ sizeLine; decide, fun p2 np2 => ?_⟩⟩⟩
    have s10 := same_new np2 (.lst [nV n, nV n, nV n, .int 8, .int 8, .int 8, .int 8, .int 8])
    refine ⟨z4, p2, [n, n, n, 8, 8, 8, 8, 8], rfl, upd_same, by show 8 ≤ 100; omega, fun m hm => ?_, fun r2 es H10 s11 _ hes hall => ?_⟩
    · simp at hm
      omega
    obtain ⟨e0, e1, e2, e3, e4, e5, e6, e7, rfl⟩ : ∃ e0 e1 e2 e3 e4 e5 e6 e7, es = [e0, e1, e2, e3, e4, e5, e6, e7] := by
      match es, hall with
      | _, .cons _ (.cons _ (.cons _ (.cons _ (.cons _ (.cons _ (.cons _ (.cons _ .nil))))))) => exact ⟨_, _, _, _, _, _, _, _, rfl⟩
    clear hall
    refine ⟨_, rfl, _, rfl, r2, _, rfl, SqL.of hes, fun p3 np3 => ?_⟩
    have s12 := same_new np3 (.lst [nV e0, nV e1, nV e2])
    have ecut : cutV ([e0, e1, e2, e3, e4, e5, e6, e7].map nV) none (some 3) = [nV e0, nV e1, nV e2] := cut_take _ 3
    rw [ecut]
    refine ⟨p3, [e0, e1, e2].map Int.ofNat, rfl, SqL.of upd_same, by show 3 < 64; omega, fun ns' p4 hpm hst np4 => ?_⟩
    obtain ⟨S, f1, f2, f3⟩ := sorted_nat hpm hst
    obtain ⟨a, b, c, rfl⟩ : ∃ a b c, S = [a, b, c] := by
      have hl : S.length = 3 := f2.length_eq
      match S, hl with
      | [a, b, c], _ => exact ⟨a, b, c, rfl⟩
    rw [f1]
    have s13 := same_new np4 (.lst ([a, b, c].map nV))
    refine ⟨p4, _, rfl, .inl ⟨SqL.of upd_same, fun p5 np5 => ?_⟩⟩
    have s14 := same_new np5 (.tup ([a, b, c].map nV))
    have t0 := s12.trans (s13.trans s14)
    have hp5 : (upd (upd (upd H10 p3 (.lst [nV e0, nV e1, nV e2])) p4 (.lst ([a, b, c].map nV))) p5 (.tup ([a, b, c].map nV))) p5 = some (.tup [nV a, nV b, nV c]) := upd_same
    generalize upd (upd (upd H10 p3 (.lst [nV e0, nV e1, nV e2])) p4 (.lst ([a, b, c].map nV))) p5 (.tup ([a, b, c].map nV)) = H14 at t0 hp5 ⊢
    have he := t0 _ _ hes
    refine ⟨_, rfl, _, _, _, _, rfl, rfl, SqL.of he, atI_nat (j := 3) rfl, _, rfl, _, _, _, _, rfl, rfl, SqL.of he, atI_nat (j := 4) rfl, by show 2 ≤ sizeLine; decide, fun p6 np6 => ?_⟩
    have t1 := same_new np6 (.tup [nV e3, nV e4])
    refine ⟨_, rfl, _, _, _, _, rfl, rfl, SqL.of (t1 _ _ he), atI_nat (j := 5) rfl, by show 1 ≤ sizeLine; decide, fun p7 np7 => ?_⟩
    have t2 := same_new np7 (.tup [nV e5])
    have t12 := t1.trans t2
    refine ⟨_, rfl, _, _, _, _, rfl, rfl, SqL.of (t12 _ _ he), atI_nat (j := 6) rfl, _, rfl, _, _, _, _, rfl, rfl, SqL.of (t12 _ _ he), atI_nat (j := 7) rfl, by show 2 ≤ sizeLine; decide, fun p8 np8 => ?_⟩
    have t3 := same_new np8 (.tup [nV e6, nV e7])
    refine ⟨by show 3 ≤ sizeLine; decide, fun p9 np9 => ⟨by show 3 ≤ sizeLine; decide, fun p10 np10 => ?_⟩⟩
    have t4 := same_new np9 (.tup [.ref p6, .ref p7, .ref p8])
    have t5 := same_new np10 (.tup [.str "three", .ref p5, .ref p9])
    have t35 := t3.trans (t4.trans t5)
    have tall := t12.trans t35
    refine ⟨_, rfl, _, rfl, _, rfl, n, sv, .ref p10, sets, a, b, c, [e3, e4], [e5], [e6, e7], rfl, hsets.tk (tk (s49.trans (s10.trans (s11.trans (t0.trans tall))))), hok,
      ⟨p10, p5, .ref p9, rfl, upd_same, tall _ _ hp5, p9, .ref p6, .ref p7, .ref p8, rfl, t5 _ _ upd_same, ⟨p6, rfl, (t2.trans t35) _ _ upd_same⟩, ⟨p7, rfl, t35 _ _ upd_same⟩, ⟨p8, rfl, (t4.trans t5) _ _ upd_same⟩⟩,
      by show 2 ≤ 1000; omega, by show 1 ≤ 1000; omega, by show 2 ≤ 1000; omega, fun rb H11 s11 hrb => ⟨_, _, rfl, rfl, ?_⟩⟩
    cases rb with
    | false => exact q _
    | true =>
      have hI := hrb.mp rfl
      refine (paper_parts fi (fun S hS x hx => (hok.2.2.2 S hS).2 x hx) hI fun i hi => ff _ ?_).elim
      have hlt : i < sets.length := by
        rcases List.mem_append.mp hi with y | y
        · rcases List.mem_append.mp y with w | w
          · exact hI.ab.lt i w
          · exact hI.ac.lt i w
        · exact hI.bc.lt i y
      unfold st
      rw [getD_at _ hlt]
      exact List.getElem_mem _
  · -- a paper
    have s05 := s04.trans s5
    refine ⟨_, rfl, rfl, _, rfl, _, rfl, n, sv, sets, rfl, hsets.tk (tk s5), hok, fun _ H6 s6 => ?_, fun T hT w H6 s6 hw => ?_⟩
    case refine_2 =>
      obtain ⟨f, fi, ff⟩ := hT.order
      exact absurd ff (no f fi)
    obtain ⟨pf, pq, pr, rfl, hpf, hpq, pc, v1, v2, v3, rfl, hpc, hk1, hk2, hk3⟩ := id hform
    refine ⟨rfl, rfl, _, rfl, iteF ?_⟩
    have s46 := s5.trans s6
    have s06 := s04.trans s46
    -- the other orders
    refine ⟨_, rfl, by decide, by decide, fun D nD => ?_⟩
    refine lc_range (lo := 0) (LcInv H6 D fun i ys H' => ∃ os : List (List Nat), All2 (SetIn H') ys os ∧ ∀ o ∈ os, o.Perm (List.range n)) (lc_start nD ⟨[], .nil, fun o h => absurd h List.not_mem_nil⟩) (fun i H' hi g => ?_) (fun H7 g => ?_)
    · obtain ⟨g1, g2, ys, g3, g4, os, g5, g6⟩ := g
      have hi2 : i < 8 := hi
      refine ⟨rfl, tyes ⟨_, rfl, v, 2, rfl, hsc.same (s06.trans g2), by omega, fun z => ⟨_, rfl, _, _, rfl, rfl, _, rfl, _, n, rfl, h1, h24, fun x o H8 s8 hx ho => ?_⟩⟩⟩
      have kk := tk_lst (s8 _ _ g3) (.lst (ys ++ [x]))
      refine lc_put (by omega) g1 (g2.trans s8) (s8 _ _ g3) g4 ⟨os ++ [o], (g5.imp fun _ _ h => h.tk ((tk s8).trans kk)).snoc (hx.tk kk), fun o' h' => ?_⟩
      rcases List.mem_append.mp h' with y | y
      · exact g6 o' y
      · rw [List.mem_singleton.mp y]
        exact ho
    obtain ⟨_, s7, ys, hD, hly, os, g5, g6⟩ := g
    have hly8 : ys.length ≤ 8 := hly
    refine ⟨_, rfl, by show 1 ≤ sizeLine; decide, fun o1 no1 => ?_⟩
    have s8 := same_new no1 (.lst [ou])
    refine ⟨D, o1, _, _, rfl, rfl, s8 _ _ hD, upd_same, sz (by show ys.length + 1 ≤ 100000; omega), fun o2 no2 => ?_⟩
    have s9 := same_new no2 (.lst (ys ++ [ou]))
    have s49 := s46.trans (s7.trans (s8.trans s9))
    have s59 := s6.trans (s7.trans (s8.trans s9))
    have hoth : (upd (upd H7 o1 (.lst [ou])) o2 (.lst (ys ++ [ou]))) o2 = some (.lst (ys ++ [ou])) := upd_same
    have hoths : All2 (SetIn (upd (upd H7 o1 (.lst [ou])) o2 (.lst (ys ++ [ou])))) (ys ++ [ou]) (os ++ [order]) := (g5.imp fun _ _ h => h.tk (tk (s8.trans s9))).snoc (hord4.tk (tk s49))
    have hall : ∀ o ∈ os ++ [order], o.Perm (List.range n) := fun o h => by
      rcases List.mem_append.mp h with y | y
      · exact g6 o y
      · rw [List.mem_singleton.mp y]
        exact hperm
    generalize upd (upd H7 o1 (.lst [ou])) o2 (.lst (ys ++ [ou])) = H9 at s49 s59 hoth hoths ⊢
    have hform9 := hform.tk (tk s59)
    have hpf9 := s59 _ _ hpf
    have hpc9 := s59 _ _ hpc
    -- the paper's form
    refine ⟨_, rfl, rfl, _, rfl, iteF ?_⟩
    refine ⟨_, rfl, _, _, _, _, rfl, rfl, SqT.of hpf9, at1, _, _, _, _, _, rfl, .ty "tuple", .base (.tup (s59 _ _ hpq)), kit_ty (r := true) (by decide +kernel), _, rfl, iteF ?_⟩
    refine ⟨_, rfl, _, _, _, _, rfl, rfl, SqT.of hpf9, at2, _, _, _, _, _, rfl, .ty "tuple", .base (.tup hpc9), kit_ty (r := true) (by decide +kernel), _, rfl, iteF ?_⟩
    refine ⟨_, rfl, _, _, _, _, rfl, rfl, SqT.of hpf9, at2, pc, rfl, ⟨_, SqT.of hpc9⟩, fun E nE => ?_⟩
    refine lc_tup (K := K) (a := pc) (xs := [v1, v2, v3]) (LcInv H9 E fun i zs _ => zs = []) (lc_start nE rfl) (fun i H' _ g => SqT.of (g.2.1 _ _ hpc9)) (fun i x H' hi g => ?_) (fun H10 g => ?_)
    · obtain ⟨g1, g2, zs, g3, g4, g5⟩ := g
      obtain ⟨y, l, rfl, hy⟩ : ∃ y l, x = V.ref y ∧ H5 y = some (.tup l) := by
        obtain ⟨y1, rfl, hy1⟩ := hk1
        obtain ⟨y2, rfl, hy2⟩ := hk2
        obtain ⟨y3, rfl, hy3⟩ := hk3
        match i, hi with
        | 0, hi => exact ⟨y1, _, (Option.some.inj hi).symm, hy1⟩
        | 1, hi => exact ⟨y2, _, (Option.some.inj hi).symm, hy2⟩
        | 2, hi => exact ⟨y3, _, (Option.some.inj hi).symm, hy3⟩
        | i + 3, hi => simp at hi
      exact ⟨rfl, _, rfl, _, _, _, _, _, rfl, .ty "tuple", .base (.tup ((s59.trans g2) _ _ hy)), kit_ty (r := true) (by decide +kernel), _, rfl, iteF (lc_skip g1 g2 g3 g4 g5)⟩
    obtain ⟨_, s10, zs, hE, _, hzs⟩ := g
    subst hzs
    refine ⟨by show 0 ≤ sizeLine; decide, fun F nF => ?_⟩
    have s11 := same_new nF (.lst [])
    refine ne_nil_nil (s11 _ _ hE) upd_same ⟨_, rfl, iteF ?_⟩
    have s9b := s10.trans s11
    generalize upd H10 F (.lst []) = H11 at s9b ⊢
    have s4b := s49.trans s9b
    have s5b := s59.trans s9b
    obtain ⟨l1, l2, l3⟩ := hsh
    refine ⟨_, rfl, _, rfl, _, rfl, n, sv, .ref pf, sets, a, b, c, k1, k2, k3, rfl, hsets.tk (tk s4b), hok, hform.tk (tk s5b), by omega, by omega, by omega, hp, fun H12 s12 => ⟨_, rfl, iteF ?_⟩⟩
    have s4c := s4b.trans s12
    have s5c := s5b.trans s12
    refine ⟨_, rfl, _, rfl, _, rfl, n, sv, .ref pf, sets, a, b, c, k1, k2, k3, rfl, hsets.tk (tk s4c), hok, hform.tk (tk s5c), by omega, by omega, by omega, fun rb H13 s13 hrb => ⟨_, _, rfl, rfl, _, rfl, ?_⟩⟩
    obtain rfl : rb = true := hrb.mpr hp
    refine iteF ?_
    have s4d := s4c.trans s13
    have s5d := s5c.trans s13
    have s9d := (s9b.trans s12).trans s13
    obtain ⟨y1, rfl, hy1⟩ := hk1
    obtain ⟨y2, rfl, hy2⟩ := hk2
    obtain ⟨y3, rfl, hy3⟩ := hk3
    have hpfd := s5d _ _ hpf
    have hpcd := s5d _ _ hpc
    obtain ⟨tt, ws, rfl, ht, hws⟩ := hsets
    have htd := s4d _ _ ht
    -- the sets of the paper
    refine ⟨_, rfl, _, _, _, _, rfl, rfl, SqT.of hpfd, at2, _, _, _, _, rfl, rfl, SqT.of hpcd, at0, _, rfl, _, _, _, _, rfl, rfl, SqT.of hpfd, at2, _, _, _, _, rfl, rfl, SqT.of hpcd, at1,
      catA (s5d _ _ hy1) (s5d _ _ hy2) (by rw [List.length_map, List.length_map]; omega) (fun p14 H14 s14 h14 => ?_)⟩
    refine ⟨_, rfl, _, _, _, _, rfl, rfl, SqT.of (s14 _ _ hpfd), at2, _, _, _, _, rfl, rfl, SqT.of (s14 _ _ hpcd), at2,
      catA h14 (s14 _ _ (s5d _ _ hy3)) (by rw [List.length_append, List.length_map, List.length_map, List.length_map]; omega) (fun p15 H15 s15 h15 => ⟨p15, rfl, ⟨_, SqT.of h15⟩, fun G nG => ?_⟩)⟩
    rw [← List.map_append, ← List.map_append] at h15
    have ilt : ∀ i ∈ k1 ++ k2 ++ k3, i < sets.length := fun i hi => by
      rcases List.mem_append.mp hi with y | y
      · rcases List.mem_append.mp y with w | w
        · exact hp.ab.lt i w
        · exact hp.ac.lt i w
      · exact hp.bc.lt i y
    have klen : (k1 ++ k2 ++ k3).length ≤ 24 := by
      rw [List.length_append, List.length_append]
      omega
    have s9f := s9d.trans (s14.trans s15)
    have s4f := s4d.trans (s14.trans s15)
    refine lc_tup (K := K) (a := p15) (xs := (k1 ++ k2 ++ k3).map nV) (LcInv H15 G fun i zs H' => All2 (SetIn H') zs (((k1 ++ k2 ++ k3).take i).map (st sets))) (lc_start nG .nil) (fun i H' _ g => SqT.of (g.2.1 _ _ h15)) (fun i x H' hi g => ?_) (fun H16 g => ?_)
    · obtain ⟨g1, g2, zs, g3, g4, g5⟩ := g
      obtain ⟨j, hj, rfl⟩ := map_get hi
      have hi2 : i < 24 := by
        have := (List.getElem?_eq_some_iff.mp hj).1
        omega
      obtain ⟨y, w, hy⟩ := tabAt hws (ilt j (List.mem_of_getElem? hj))
      have sx := s4f.trans g2
      have kk := tk_lst g3 (.lst (zs ++ [.ref y]))
      refine ⟨rfl, tyes ⟨_, rfl, _, rfl, _, _, _, _, rfl, rfl, SqT.of (sx _ _ ht), atI_nat w, lc_put (by omega) g1 g2 g3 g4 ?_⟩⟩
      rw [List.take_add_one, hj, List.map_append]
      exact (g5.imp fun _ _ h => h.tk kk).snoc ⟨y, rfl, kk _ _ (sx _ _ hy)⟩
    obtain ⟨_, s16, us, hG, _, hus⟩ := g
    rw [List.length_map, List.take_length] at hus
    have s9g := s9f.trans s16
    have hoth16 := s9g _ _ hoth
    -- no order fits them
    refine ⟨_, rfl, o2, rfl, ⟨_, SqL.of hoth16⟩, fun Z nZ => ?_⟩
    refine lc_list (K := K) (a := o2) (xs := ys ++ [ou]) (LcInv H16 Z fun i zs _ => zs = []) (lc_start nZ rfl) (fun i H' _ g => SqL.of (g.2.1 _ _ hoth16)) (fun i x H' hi g => ?_) (fun H17 g => ?_)
    · obtain ⟨g1, g2, zs, g3, g4, g5⟩ := g
      obtain ⟨o, ho, hxo⟩ := hoths.get hi
      have om := hall o (List.mem_of_getElem? ho)
      refine ⟨rfl, _, rfl, _, rfl, n, x, o, G, us, (k1 ++ k2 ++ k3).map (st sets), rfl, h24, hxo.tk (tk (s9g.trans g2)), om, g2 _ _ hG, hus.imp fun _ _ h => h.tk (tk g2), by rw [List.length_map]; omega, fun rb H18 s18 e => ⟨_, rfl, ?_⟩⟩
      cases rb with
      | false => exact iteF (lc_skip g1 (g2.trans s18) (s18 _ _ g3) g4 g5)
      | true =>
        have oi : Inj (pos o) (List.range n) := fun x hx y hy e => pos_inj x (om.mem_iff.mpr hx) y (om.mem_iff.mpr hy) e
        exact (paper_parts oi (fun S hS x hx => (hok.2.2.2 S hS).2 x hx) hp fun i hi => e rfl _ (List.mem_map.mpr ⟨i, hi, rfl⟩)).elim
    obtain ⟨_, s17, zs, hZ, _, hzs⟩ := g
    subst hzs
    refine ⟨by show 0 ≤ sizeLine; decide, fun Y nY => ?_⟩
    exact eq_nil_nil (same_new nY _ _ _ hZ) upd_same (q _)
end UR
set_option maxHeartbeats 0
namespace UrHead
open PySem PySem.Spec PyProof.Rows L2
def dd (i : Nat) (x : Str) : He.DefD := ⟨(x, none), x, x, defArgs (UR.top i), defBody (UR.top i), defScope (UR.top i), [], []⟩
def fn : List He.DefD := [dd 7 "is_size", dd 8 "check_things", dd 9 "is_set", dd 10 "check_set", dd 11 "check_table", dd 13 "is_thing", dd 14 "listed", dd 15 "least_thing", dd 16 "make_any", dd 17 "make_row", dd 18 "normalized", dd 19 "plain_tree", dd 21 "share", dd 22 "with_share", dd 23 "split_any", dd 24 "ascends", dd 25 "split_row", dd 26 "split", dd 27 "joined_any", dd 28 "joined_row", dd 29 "joined", dd 30 "reduced_by", dd 31 "reduced_by_all", dd 32 "tree_of", dd 34 "share_a_thing", dd 35 "chain_for", dd 36 "chains_of", dd 37 "paper_of", dd 38 "paper_for", dd 39 "is_chain", dd 40 "is_paper", dd 42 "_law_cell", dd 43 "_law_digits", dd 44 "_law_rich", dd 45 "_law_order", dd 46 "_law_set", dd 47 "_law_stretch", dd 48 "_law_table", dd 49 "_law_together", dd 50 "_law_fits", dd 51 "_law_is_chain", dd 52 "_law_is_paper", dd 53 "law"]
def fa : List He.Fa := [.glo "is_size", .glo "check_things", .glo "is_set", .glo "check_set", .glo "check_table", .glo "is_thing", .glo "listed", .glo "least_thing", .glo "make_any", .glo "make_row", .glo "normalized", .glo "plain_tree", .glo "share", .glo "with_share", .glo "split_any", .glo "ascends", .glo "split_row", .glo "split", .glo "joined_any", .glo "joined_row", .glo "joined", .glo "reduced_by", .glo "reduced_by_all", .glo "tree_of", .glo "share_a_thing", .glo "chain_for", .glo "chains_of", .glo "paper_of", .glo "paper_for", .glo "is_chain", .glo "is_paper", .glo "_law_cell", .glo "_law_digits", .glo "_law_rich", .glo "_law_order", .glo "_law_set", .glo "_law_stretch", .glo "_law_table", .glo "_law_together", .glo "_law_fits", .glo "_law_is_chain", .glo "_law_is_paper", .glo "law", .free "range", .free "len", .free "isinstance", .free "int", .free "min", .free "max", .free "sorted", .free "enumerate", .free "tuple", .free "list", .free "any", .free "all", .int "MOST_THINGS" 24, .int "MOST_SETS" 40]
def loose0 : List Str := ["UnpartedError", "InvalidTable", "OutOfRange", "MOST_THINGS", "MOST_SETS", "is_size", "check_things", "is_set", "check_set", "check_table", "is_thing", "listed", "least_thing", "make_any", "make_row", "normalized", "plain_tree", "share", "with_share", "split_any", "ascends", "split_row", "split", "joined_any", "joined_row", "joined", "reduced_by", "reduced_by_all", "tree_of", "share_a_thing"]
def loose1 : List Str := ["chain_for", "chains_of", "paper_of", "paper_for", "is_chain", "is_paper", "_law_cell", "_law_digits", "_law_rich", "_law_order", "_law_set", "_law_stretch", "_law_table", "_law_together", "_law_fits", "_law_is_chain", "_law_is_paper"]
def loose : List Str := loose0 ++ loose1
abbrev R : PySem.W.OpenRow := PySem.W.OpenLaw.row PySem.Challenge.rw_unpartedrows_k11_whole_tree_or_paper
abbrev hk : PySem.W.Hook := He.hookD 4 fa fn
def ob (s : PySem.W.SharedT) : He.AlD := He.obsDG 4 fa fn (HandSHeadRun.getT s)
theorem ob_eq (s : PySem.W.SharedT) : ob s = hk.obs s.abs := He.obsDG_eq (HandSHeadRun.getT_eq s)
theorem run (w : World) : HandSHeadRun.RunEq R (PySem.W.view R.prog [53]) hk ob 4000 loose w := by
  intro os
  kernel_rfl
end UrHead
open PySem PySem.W PySem.Calls PyProof.Rows
theorem head_holds (call : WalkO (view UrHead.R.prog [53]) UrHead.loose (XL (view UrHead.R.prog [53]) []) UrHead.hk.says UrHead.R.toRowW (HandSHeadRun.topDef UrHead.R.prog 53) [] fun f vs => PySem.call f vs) : PySem.Challenge.rw_unpartedrows_k11_whole_tree_or_paper.Holds := by
  w_on; o_law
  refine HandSHeadRun.head_any (r := OpenLaw.row PySem.Challenge.rw_unpartedrows_k11_whole_tree_or_paper) (q := view (OpenLaw.row PySem.Challenge.rw_unpartedrows_k11_whole_tree_or_paper).prog [53]) (H := UrHead.hk) (ob := UrHead.ob) (M := 4000) (loose := UrHead.loose) (d := HandSHeadRun.topDef (OpenLaw.row PySem.Challenge.rw_unpartedrows_k11_whole_tree_or_paper).prog 53) (kwd := []) UrHead.ob_eq
    (by kernel_rfl) (fun s => by kernel_rfl) UrHead.run (by kernel_rfl) (by kernel_rfl) (by kernel_rfl) (by rfl) (by first | assumption | decide +kernel) (by decide +kernel) ⟨rfl, rfl, rfl, rfl, rfl, by decide +kernel⟩ ?hw call
  case hw => w_witness2
set_option maxHeartbeats 4000000
namespace UR
open PySem PySem.Spec PyProof.Rows L2
/-- where the defs stand, and the plain names -/
structure Ds (K : PySem.W.Frag) (mg : Str → Option Value) : Prop where
  B : Bl mg
  mt : ∃ t, mg "MOST_THINGS" = some (.int 24 t)
  ms : ∃ t, mg "MOST_SETS" = some (.int 40 t)
  d_is_size : DefAt K mg 7 "is_size"
  d_check_things : DefAt K mg 8 "check_things"
  d_is_set : DefAt K mg 9 "is_set"
  d_check_set : DefAt K mg 10 "check_set"
  d_check_table : DefAt K mg 11 "check_table"
  d_is_thing : DefAt K mg 13 "is_thing"
  d_listed : DefAt K mg 14 "listed"
  d_least_thing : DefAt K mg 15 "least_thing"
  d_make_any : DefAt K mg 16 "make_any"
  d_make_row : DefAt K mg 17 "make_row"
  d_normalized : DefAt K mg 18 "normalized"
  d_plain_tree : DefAt K mg 19 "plain_tree"
  d_share : DefAt K mg 21 "share"
  d_with_share : DefAt K mg 22 "with_share"
  d_split_any : DefAt K mg 23 "split_any"
  d_ascends : DefAt K mg 24 "ascends"
  d_split_row : DefAt K mg 25 "split_row"
  d_split : DefAt K mg 26 "split"
  d_joined_any : DefAt K mg 27 "joined_any"
  d_joined_row : DefAt K mg 28 "joined_row"
  d_joined : DefAt K mg 29 "joined"
  d_reduced_by : DefAt K mg 30 "reduced_by"
  d_reduced_by_all : DefAt K mg 31 "reduced_by_all"
  d_tree_of : DefAt K mg 32 "tree_of"
  d_share_a_thing : DefAt K mg 34 "share_a_thing"
  d_chain_for : DefAt K mg 35 "chain_for"
  d_chains_of : DefAt K mg 36 "chains_of"
  d_paper_of : DefAt K mg 37 "paper_of"
  d_paper_for : DefAt K mg 38 "paper_for"
  d_is_chain : DefAt K mg 39 "is_chain"
  d_is_paper : DefAt K mg 40 "is_paper"
  d_law_cell : DefAt K mg 42 "_law_cell"
  d_law_digits : DefAt K mg 43 "_law_digits"
  d_law_rich : DefAt K mg 44 "_law_rich"
  d_law_order : DefAt K mg 45 "_law_order"
  d_law_set : DefAt K mg 46 "_law_set"
  d_law_stretch : DefAt K mg 47 "_law_stretch"
  d_law_table : DefAt K mg 48 "_law_table"
  d_law_together : DefAt K mg 49 "_law_together"
  d_law_fits : DefAt K mg 50 "_law_fits"
  d_law_is_chain : DefAt K mg 51 "_law_is_chain"
  d_law_is_paper : DefAt K mg 52 "_law_is_paper"
  d_law : DefAt K mg 53 "law"
theorem law_ok {P : Program} {w : World} {K : PySem.W.Frag} {mg : Str → Option Value} {base : Heap} (X : Ds K mg) {fa : Addr} {fd : FuncData} (F : FunD K "law" "law" (defArgs (top 53)) (defBody (top 53)) (defScope (top 53)) [] [] fa fd) :
    FnOk P w K mg base CX0 130 fa fd ["_law_script"] (sp_law K) := by
  obtain ⟨tM, hMT⟩ := X.mt
  obtain ⟨tS, hMS⟩ := X.ms
  have C_is_size : Cal P w K mg base (1) "is_size" ["n"] sp_is_size := cal_is_size X.B X.d_is_size hMT
  have C_check_things : Cal P w K mg base (2) "check_things" ["n"] sp_check_things := cal_check_things X.B X.d_check_things (C_is_size.mono (by omega))
  have C_is_set : Cal P w K mg base (1) "is_set" ["n", "chosen"] sp_is_set := cal_is_set X.B X.d_is_set
  have C_check_set : Cal P w K mg base (2) "check_set" ["n", "chosen"] sp_check_set := cal_check_set X.B X.d_check_set (C_is_set.mono (by omega)) (C_is_size.mono (by omega))
  have C_check_table : Cal P w K mg base (3) "check_table" ["n", "sets"] sp_check_table := cal_check_table X.B X.d_check_table hMS (C_check_set.mono (by omega)) (C_is_size.mono (by omega))
  have C_is_thing : Cal P w K mg base (1) "is_thing" ["tree"] sp_is_thing := cal_is_thing X.B X.d_is_thing
  have L : ∀ n, Cal P w K mg base (n + 1) "listed" ["tree"] (sp_listed n) := fun n => by
    induction n with
    | zero => exact (cal_none X.d_listed (fun vs H Q E h => by obtain ⟨v, T, _, _, hd, _⟩ := h; exact absurd hd (Nat.not_lt_zero _)) (fun kV doc pm an cdv ct us hl => match us, hl with | [_], _ => rfl)).mono (Nat.zero_le _)
    | succ n ih => exact (cal_listed X.B X.d_listed (C_is_thing.mono (by omega)) ih).mono (by omega)
  have C_listed : Cal P w K mg base (24 + 2) "listed" ["tree"] (sp_listed 24) := (L 24).mono (by omega)
  have C_least_thing : Cal P w K mg base (30) "least_thing" ["tree"] sp_least_thing := cal_least_thing X.B X.d_least_thing (C_listed.mono (by omega))
  have C_make_any : Cal P w K mg base (1) "make_any" ["parts"] sp_make_any := cal_make_any X.B X.d_make_any
  have C_make_row : Cal P w K mg base (2) "make_row" ["parts"] sp_make_row := cal_make_row X.B X.d_make_row (C_make_any.mono (by omega))
  have N : ∀ n, Cal P w K mg base (n + 31) "normalized" ["tree"] (sp_normalized n) := fun n => by
    induction n with
    | zero => exact (cal_none X.d_normalized (fun vs H Q E h => by obtain ⟨v, T, _, _, hd, _⟩ := h; exact absurd hd (Nat.not_lt_zero _)) (fun kV doc pm an cdv ct us hl => match us, hl with | [_], _ => rfl)).mono (Nat.zero_le _)
    | succ n ih => exact (cal_normalized X.B X.d_normalized (C_is_thing.mono (by omega)) (C_least_thing.mono (by omega)) ih).mono (by omega)
  have C_normalized : Cal P w K mg base (24 + 31) "normalized" ["tree"] (sp_normalized 24) := (N 24).mono (by omega)
  have C_plain_tree : Cal P w K mg base (3) "plain_tree" ["n"] sp_plain_tree := cal_plain_tree X.B X.d_plain_tree (C_check_things.mono (by omega)) (C_make_any.mono (by omega))
  have C_share : Cal P w K mg base (30) "share" ["tree", "chosen"] sp_share := cal_share X.B X.d_share (C_listed.mono (by omega))
  have C_with_share : Cal P w K mg base (31) "with_share" ["parts", "chosen", "wanted"] sp_with_share := cal_with_share X.B X.d_with_share (C_share.mono (by omega))
  have C_ascends : Cal P w K mg base (1) "ascends" ["shares"] sp_ascends := cal_ascends X.B X.d_ascends
  have S : ∀ k, Cal P w K mg base (2 * k + 32) "split" ["tree", "chosen"] (sp_split k) := fun k => by
    induction k with
    | zero => exact (cal_none X.d_split (fun vs H Q E h => by obtain ⟨v, c, T, Z, _, _, hT, _, h1, hd, _⟩ := h; exact no_split hT.1 h1 hd) (fun kV doc pm an cdv ct us hl => match us, hl with | [_, _], _ => rfl)).mono (Nat.zero_le _)
    | succ k ih =>
      have e1 := cal_split_any X.B X.d_split_any (C_make_any.mono (by omega)) ih (C_with_share.mono (by omega))
      have e2 := cal_split_row X.B X.d_split_row (C_ascends.mono (by omega)) (C_share.mono (by omega)) ih
      exact (cal_split X.B X.d_split e1 e2).mono (by omega)
  have N_joined : Cal P w K mg base (0) "joined" ["tree", "chosen"] sp_none := (cal_none X.d_joined (fun vs H Q E h => h) (fun kV doc pm an cdv ct us hl => match us, hl with | [_, _], _ => rfl))
  have N_joined_any : Cal P w K mg base (0) "joined_any" ["parts", "chosen"] sp_none := (cal_none X.d_joined_any (fun vs H Q E h => h) (fun kV doc pm an cdv ct us hl => match us, hl with | [_, _], _ => rfl))
  have N_joined_row : Cal P w K mg base (0) "joined_row" ["parts", "chosen"] sp_none := (cal_none X.d_joined_row (fun vs H Q E h => h) (fun kV doc pm an cdv ct us hl => match us, hl with | [_, _], _ => rfl))
  have J : ∀ k, Cal P w K mg base (3 * k + 32) "joined" ["tree", "chosen"] (sp_joined k) := fun k => by
    induction k with
    | zero => exact cal_joined0 X.B X.d_joined (C_is_thing.mono (by omega)) N_joined N_joined_any N_joined_row (C_share.mono (by omega))
    | succ k ih =>
      have e1 := cal_joined_any X.B X.d_joined_any (C_make_any.mono (by omega)) (C_make_row.mono (by omega)) (S k) (C_with_share.mono (by omega))
      have e2 := cal_joined_row X.B X.d_joined_row (C_make_row.mono (by omega)) (C_share.mono (by omega)) (S k)
      exact (cal_joined X.B X.d_joined (C_is_thing.mono (by omega)) ih e1 e2 (C_share.mono (by omega))).mono (by omega)
  have C_joined : Cal P w K mg base (24 + 92) "joined" ["tree", "chosen"] (sp_joined 24) := (J 24).mono (by omega)
  have C_reduced_by : Cal P w K mg base (120) "reduced_by" ["tree", "chosen"] sp_reduced_by := cal_reduced_by X.B X.d_reduced_by (C_joined.mono (by omega)) (C_normalized.mono (by omega))
  have C_reduced_by_all : Cal P w K mg base (121) "reduced_by_all" ["tree", "sets"] sp_reduced_by_all := cal_reduced_by_all X.B X.d_reduced_by_all (C_reduced_by.mono (by omega))
  have C_tree_of : Cal P w K mg base (122) "tree_of" ["n", "sets"] sp_tree_of := cal_tree_of X.B X.d_tree_of (C_check_table.mono (by omega)) (C_plain_tree.mono (by omega)) (C_reduced_by_all.mono (by omega))
  have C_share_a_thing : Cal P w K mg base (1) "share_a_thing" ["one", "other"] sp_share_a_thing := cal_share_a_thing X.B X.d_share_a_thing
  have C_chain_for : Cal P w K mg base (2) "chain_for" ["sets", "start", "goal", "left_out"] sp_chain_for := cal_chain_for X.B X.d_chain_for (C_share_a_thing.mono (by omega))
  have C_chains_of : Cal P w K mg base (3) "chains_of" ["sets", "a", "b", "c"] sp_chains_of := cal_chains_of X.B X.d_chains_of (C_chain_for.mono (by omega))
  have C_paper_of : Cal P w K mg base (4) "paper_of" ["n", "sets"] sp_paper_of := cal_paper_of X.B X.d_paper_of (C_chains_of.mono (by omega))
  have C_paper_for : Cal P w K mg base (123) "paper_for" ["n", "sets"] sp_paper_for := cal_paper_for X.B X.d_paper_for (C_paper_of.mono (by omega)) (C_tree_of.mono (by omega))
  have C_is_chain : Cal P w K mg base (2) "is_chain" ["sets", "chain", "start", "goal", "left_out"] sp_is_chain := cal_is_chain X.B X.d_is_chain (C_share_a_thing.mono (by omega))
  have C_is_paper : Cal P w K mg base (4) "is_paper" ["n", "sets", "value"] sp_is_paper := cal_is_paper X.B X.d_is_paper (C_check_table.mono (by omega)) (C_is_chain.mono (by omega))
  have C__law_cell : Cal P w K mg base (1) "_law_cell" ["_law_script", "_law_k"] (sp_law_cell K) := cal_law_cell X.B X.d_law_cell
  have C__law_digits : Cal P w K mg base (1) "_law_digits" ["_law_cell_here", "_law_sizes"] sp_law_digits := cal_law_digits X.B X.d_law_digits
  have C__law_rich : Cal P w K mg base (1) "_law_rich" ["_law_cell_here"] sp_law_rich := cal_law_rich X.B X.d_law_rich
  have C__law_order : Cal P w K mg base (2) "_law_order" ["_law_cell_here", "_law_n"] sp_law_order := cal_law_order X.B X.d_law_order (C__law_rich.mono (by omega))
  have C__law_set : Cal P w K mg base (2) "_law_set" ["_law_cell_here", "_law_n"] sp_law_set := cal_law_set X.B X.d_law_set (C__law_rich.mono (by omega))
  have C__law_stretch : Cal P w K mg base (2) "_law_stretch" ["_law_cell_here", "_law_order_here"] sp_law_stretch := cal_law_stretch X.B X.d_law_stretch (C__law_digits.mono (by omega)) (C__law_rich.mono (by omega))
  have C__law_table : Cal P w K mg base (3) "_law_table" ["_law_script", "_law_at", "_law_n", "_law_order_here"] (sp_law_table K) := cal_law_table X.B X.d_law_table (C__law_cell.mono (by omega)) (C__law_set.mono (by omega)) (C__law_stretch.mono (by omega))
  have C__law_together : Cal P w K mg base (1) "_law_together" ["_law_order_here", "_law_chosen"] sp_law_together := cal_law_together X.B X.d_law_together
  have C__law_fits : Cal P w K mg base (2) "_law_fits" ["_law_order_here", "_law_sets"] sp_law_fits := cal_law_fits X.B X.d_law_fits (C__law_together.mono (by omega))
  have C__law_is_chain : Cal P w K mg base (1) "_law_is_chain" ["_law_sets", "_law_chain", "_law_start", "_law_goal", "_law_third"] sp_law_is_chain := cal_law_is_chain X.B X.d_law_is_chain
  have C__law_is_paper : Cal P w K mg base (2) "_law_is_paper" ["_law_n", "_law_sets", "_law_value"] sp_law_is_paper := cal_law_is_paper X.B X.d_law_is_paper (C__law_is_chain.mono (by omega))
  exact fn_law X.B F (C__law_cell.mono (by omega)) (C__law_digits.mono (by omega)) (C__law_fits.mono (by omega)) (C__law_is_paper.mono (by omega)) (C__law_order.mono (by omega)) (C__law_rich.mono (by omega)) (C__law_table.mono (by omega)) (C_is_paper.mono (by omega)) (C_paper_for.mono (by omega)) (C_tree_of.mono (by omega))
open UrHead in
theorem facts {P : Program} {w : World} {K : PySem.W.Frag} {h : Heap} {mg : Str → Option Value} {f : Addr} (X : K.In h) (G : h.Ns mainGlobals mg) (hfa : mg ("law" : Str) = some (.ref f)) (c : He.SaysD fa fn K) :
    ∃ fd : FuncData, (∀ (s : Shared) (v : Value), BindsTo s fd ⟨[v], []⟩ [("_law_script", v)]) ∧ ∀ base : Heap, K.In base → base.Ns mainGlobals mg → FnOk P w K mg base CX0 130 f fd ["_law_script"] (sp_law K) := by
  have B : Bl mg := ⟨He.free_ok X G (c.fact 43 (f := .free "range") rfl), He.free_ok X G (c.fact 44 (f := .free "len") rfl), He.free_ok X G (c.fact 45 (f := .free "isinstance") rfl), He.free_ok X G (c.fact 46 (f := .free "int") rfl), He.free_ok X G (c.fact 47 (f := .free "min") rfl), He.free_ok X G (c.fact 48 (f := .free "max") rfl), He.free_ok X G (c.fact 49 (f := .free "sorted") rfl), He.free_ok X G (c.fact 50 (f := .free "enumerate") rfl), He.free_ok X G (c.fact 51 (f := .free "tuple") rfl), He.free_ok X G (c.fact 52 (f := .free "list") rfl), He.free_ok X G (c.fact 53 (f := .free "any") rfl), He.free_ok X G (c.fact 54 (f := .free "all") rfl)⟩
  have mt := He.int_ok X G (c.fact 55 (f := .int "MOST_THINGS" 24) rfl)
  have ms := He.int_ok X G (c.fact 56 (f := .int "MOST_SETS" 40) rfl)
  obtain ⟨fd0, F0⟩ := c.def_ 0 (d := dd 7 "is_size") rfl
  have D0 : DefAt K mg 7 "is_size" := ⟨_, fd0, F0, He.glo_ok X G (c.fact 0 (f := .glo "is_size") rfl)⟩
  obtain ⟨fd1, F1⟩ := c.def_ 1 (d := dd 8 "check_things") rfl
  have D1 : DefAt K mg 8 "check_things" := ⟨_, fd1, F1, He.glo_ok X G (c.fact 1 (f := .glo "check_things") rfl)⟩
  obtain ⟨fd2, F2⟩ := c.def_ 2 (d := dd 9 "is_set") rfl
  have D2 : DefAt K mg 9 "is_set" := ⟨_, fd2, F2, He.glo_ok X G (c.fact 2 (f := .glo "is_set") rfl)⟩
  obtain ⟨fd3, F3⟩ := c.def_ 3 (d := dd 10 "check_set") rfl
  have D3 : DefAt K mg 10 "check_set" := ⟨_, fd3, F3, He.glo_ok X G (c.fact 3 (f := .glo "check_set") rfl)⟩
  obtain ⟨fd4, F4⟩ := c.def_ 4 (d := dd 11 "check_table") rfl
  have D4 : DefAt K mg 11 "check_table" := ⟨_, fd4, F4, He.glo_ok X G (c.fact 4 (f := .glo "check_table") rfl)⟩
  obtain ⟨fd5, F5⟩ := c.def_ 5 (d := dd 13 "is_thing") rfl
  have D5 : DefAt K mg 13 "is_thing" := ⟨_, fd5, F5, He.glo_ok X G (c.fact 5 (f := .glo "is_thing") rfl)⟩
  obtain ⟨fd6, F6⟩ := c.def_ 6 (d := dd 14 "listed") rfl
  have D6 : DefAt K mg 14 "listed" := ⟨_, fd6, F6, He.glo_ok X G (c.fact 6 (f := .glo "listed") rfl)⟩
  obtain ⟨fd7, F7⟩ := c.def_ 7 (d := dd 15 "least_thing") rfl
  have D7 : DefAt K mg 15 "least_thing" := ⟨_, fd7, F7, He.glo_ok X G (c.fact 7 (f := .glo "least_thing") rfl)⟩
  obtain ⟨fd8, F8⟩ := c.def_ 8 (d := dd 16 "make_any") rfl
  have D8 : DefAt K mg 16 "make_any" := ⟨_, fd8, F8, He.glo_ok X G (c.fact 8 (f := .glo "make_any") rfl)⟩
  obtain ⟨fd9, F9⟩ := c.def_ 9 (d := dd 17 "make_row") rfl
  have D9 : DefAt K mg 17 "make_row" := ⟨_, fd9, F9, He.glo_ok X G (c.fact 9 (f := .glo "make_row") rfl)⟩
  obtain ⟨fd10, F10⟩ := c.def_ 10 (d := dd 18 "normalized") rfl
  have D10 : DefAt K mg 18 "normalized" := ⟨_, fd10, F10, He.glo_ok X G (c.fact 10 (f := .glo "normalized") rfl)⟩
  obtain ⟨fd11, F11⟩ := c.def_ 11 (d := dd 19 "plain_tree") rfl
  have D11 : DefAt K mg 19 "plain_tree" := ⟨_, fd11, F11, He.glo_ok X G (c.fact 11 (f := .glo "plain_tree") rfl)⟩
  obtain ⟨fd12, F12⟩ := c.def_ 12 (d := dd 21 "share") rfl
  have D12 : DefAt K mg 21 "share" := ⟨_, fd12, F12, He.glo_ok X G (c.fact 12 (f := .glo "share") rfl)⟩
  obtain ⟨fd13, F13⟩ := c.def_ 13 (d := dd 22 "with_share") rfl
  have D13 : DefAt K mg 22 "with_share" := ⟨_, fd13, F13, He.glo_ok X G (c.fact 13 (f := .glo "with_share") rfl)⟩
  obtain ⟨fd14, F14⟩ := c.def_ 14 (d := dd 23 "split_any") rfl
  have D14 : DefAt K mg 23 "split_any" := ⟨_, fd14, F14, He.glo_ok X G (c.fact 14 (f := .glo "split_any") rfl)⟩
  obtain ⟨fd15, F15⟩ := c.def_ 15 (d := dd 24 "ascends") rfl
  have D15 : DefAt K mg 24 "ascends" := ⟨_, fd15, F15, He.glo_ok X G (c.fact 15 (f := .glo "ascends") rfl)⟩
  obtain ⟨fd16, F16⟩ := c.def_ 16 (d := dd 25 "split_row") rfl
  have D16 : DefAt K mg 25 "split_row" := ⟨_, fd16, F16, He.glo_ok X G (c.fact 16 (f := .glo "split_row") rfl)⟩
  obtain ⟨fd17, F17⟩ := c.def_ 17 (d := dd 26 "split") rfl
  have D17 : DefAt K mg 26 "split" := ⟨_, fd17, F17, He.glo_ok X G (c.fact 17 (f := .glo "split") rfl)⟩
  obtain ⟨fd18, F18⟩ := c.def_ 18 (d := dd 27 "joined_any") rfl
  have D18 : DefAt K mg 27 "joined_any" := ⟨_, fd18, F18, He.glo_ok X G (c.fact 18 (f := .glo "joined_any") rfl)⟩
  obtain ⟨fd19, F19⟩ := c.def_ 19 (d := dd 28 "joined_row") rfl
  have D19 : DefAt K mg 28 "joined_row" := ⟨_, fd19, F19, He.glo_ok X G (c.fact 19 (f := .glo "joined_row") rfl)⟩
  obtain ⟨fd20, F20⟩ := c.def_ 20 (d := dd 29 "joined") rfl
  have D20 : DefAt K mg 29 "joined" := ⟨_, fd20, F20, He.glo_ok X G (c.fact 20 (f := .glo "joined") rfl)⟩
  obtain ⟨fd21, F21⟩ := c.def_ 21 (d := dd 30 "reduced_by") rfl
  have D21 : DefAt K mg 30 "reduced_by" := ⟨_, fd21, F21, He.glo_ok X G (c.fact 21 (f := .glo "reduced_by") rfl)⟩
  obtain ⟨fd22, F22⟩ := c.def_ 22 (d := dd 31 "reduced_by_all") rfl
  have D22 : DefAt K mg 31 "reduced_by_all" := ⟨_, fd22, F22, He.glo_ok X G (c.fact 22 (f := .glo "reduced_by_all") rfl)⟩
  obtain ⟨fd23, F23⟩ := c.def_ 23 (d := dd 32 "tree_of") rfl
  have D23 : DefAt K mg 32 "tree_of" := ⟨_, fd23, F23, He.glo_ok X G (c.fact 23 (f := .glo "tree_of") rfl)⟩
  obtain ⟨fd24, F24⟩ := c.def_ 24 (d := dd 34 "share_a_thing") rfl
  have D24 : DefAt K mg 34 "share_a_thing" := ⟨_, fd24, F24, He.glo_ok X G (c.fact 24 (f := .glo "share_a_thing") rfl)⟩
  obtain ⟨fd25, F25⟩ := c.def_ 25 (d := dd 35 "chain_for") rfl
  have D25 : DefAt K mg 35 "chain_for" := ⟨_, fd25, F25, He.glo_ok X G (c.fact 25 (f := .glo "chain_for") rfl)⟩
  obtain ⟨fd26, F26⟩ := c.def_ 26 (d := dd 36 "chains_of") rfl
  have D26 : DefAt K mg 36 "chains_of" := ⟨_, fd26, F26, He.glo_ok X G (c.fact 26 (f := .glo "chains_of") rfl)⟩
  obtain ⟨fd27, F27⟩ := c.def_ 27 (d := dd 37 "paper_of") rfl
  have D27 : DefAt K mg 37 "paper_of" := ⟨_, fd27, F27, He.glo_ok X G (c.fact 27 (f := .glo "paper_of") rfl)⟩
  obtain ⟨fd28, F28⟩ := c.def_ 28 (d := dd 38 "paper_for") rfl
  have D28 : DefAt K mg 38 "paper_for" := ⟨_, fd28, F28, He.glo_ok X G (c.fact 28 (f := .glo "paper_for") rfl)⟩
  obtain ⟨fd29, F29⟩ := c.def_ 29 (d := dd 39 "is_chain") rfl
  have D29 : DefAt K mg 39 "is_chain" := ⟨_, fd29, F29, He.glo_ok X G (c.fact 29 (f := .glo "is_chain") rfl)⟩
  obtain ⟨fd30, F30⟩ := c.def_ 30 (d := dd 40 "is_paper") rfl
  have D30 : DefAt K mg 40 "is_paper" := ⟨_, fd30, F30, He.glo_ok X G (c.fact 30 (f := .glo "is_paper") rfl)⟩
  obtain ⟨fd31, F31⟩ := c.def_ 31 (d := dd 42 "_law_cell") rfl
  have D31 : DefAt K mg 42 "_law_cell" := ⟨_, fd31, F31, He.glo_ok X G (c.fact 31 (f := .glo "_law_cell") rfl)⟩
  obtain ⟨fd32, F32⟩ := c.def_ 32 (d := dd 43 "_law_digits") rfl
  have D32 : DefAt K mg 43 "_law_digits" := ⟨_, fd32, F32, He.glo_ok X G (c.fact 32 (f := .glo "_law_digits") rfl)⟩
  obtain ⟨fd33, F33⟩ := c.def_ 33 (d := dd 44 "_law_rich") rfl
  have D33 : DefAt K mg 44 "_law_rich" := ⟨_, fd33, F33, He.glo_ok X G (c.fact 33 (f := .glo "_law_rich") rfl)⟩
  obtain ⟨fd34, F34⟩ := c.def_ 34 (d := dd 45 "_law_order") rfl
  have D34 : DefAt K mg 45 "_law_order" := ⟨_, fd34, F34, He.glo_ok X G (c.fact 34 (f := .glo "_law_order") rfl)⟩
  obtain ⟨fd35, F35⟩ := c.def_ 35 (d := dd 46 "_law_set") rfl
  have D35 : DefAt K mg 46 "_law_set" := ⟨_, fd35, F35, He.glo_ok X G (c.fact 35 (f := .glo "_law_set") rfl)⟩
  obtain ⟨fd36, F36⟩ := c.def_ 36 (d := dd 47 "_law_stretch") rfl
  have D36 : DefAt K mg 47 "_law_stretch" := ⟨_, fd36, F36, He.glo_ok X G (c.fact 36 (f := .glo "_law_stretch") rfl)⟩
  obtain ⟨fd37, F37⟩ := c.def_ 37 (d := dd 48 "_law_table") rfl
  have D37 : DefAt K mg 48 "_law_table" := ⟨_, fd37, F37, He.glo_ok X G (c.fact 37 (f := .glo "_law_table") rfl)⟩
  obtain ⟨fd38, F38⟩ := c.def_ 38 (d := dd 49 "_law_together") rfl
  have D38 : DefAt K mg 49 "_law_together" := ⟨_, fd38, F38, He.glo_ok X G (c.fact 38 (f := .glo "_law_together") rfl)⟩
  obtain ⟨fd39, F39⟩ := c.def_ 39 (d := dd 50 "_law_fits") rfl
  have D39 : DefAt K mg 50 "_law_fits" := ⟨_, fd39, F39, He.glo_ok X G (c.fact 39 (f := .glo "_law_fits") rfl)⟩
  obtain ⟨fd40, F40⟩ := c.def_ 40 (d := dd 51 "_law_is_chain") rfl
  have D40 : DefAt K mg 51 "_law_is_chain" := ⟨_, fd40, F40, He.glo_ok X G (c.fact 40 (f := .glo "_law_is_chain") rfl)⟩
  obtain ⟨fd41, F41⟩ := c.def_ 41 (d := dd 52 "_law_is_paper") rfl
  have D41 : DefAt K mg 52 "_law_is_paper" := ⟨_, fd41, F41, He.glo_ok X G (c.fact 41 (f := .glo "_law_is_paper") rfl)⟩
  obtain ⟨fd42, F42⟩ := c.def_ 42 (d := dd 53 "law") rfl
  have D42 : DefAt K mg 53 "law" := ⟨_, fd42, F42, He.glo_ok X G (c.fact 42 (f := .glo "law") rfl)⟩
  have e := hfa.symm.trans (He.glo_ok X G (c.fact 42 (f := .glo "law") rfl))
  cases e
  have b := FunD.bindsA (ps := ["_law_script"]) F42 fun _ _ _ _ _ _ us hl => match us, hl with | [_], _ => rfl
  exact ⟨fd42, fun s v => b s [v] rfl, fun base _ _ => law_ok ⟨B, mt, ms, D0, D1, D2, D3, D4, D5, D6, D7, D8, D9, D10, D11, D12, D13, D14, D15, D16, D17, D18, D19, D20, D21, D22, D23, D24, D25, D26, D27, D28, D29, D30, D31, D32, D33, D34, D35, D36, D37, D38, D39, D40, D41, D42⟩ F42⟩
end UR
open PySem PySem.W PySem.Calls PyProof.Rows
theorem PySem.Challenge.cw_unpartedrows_k11_whole_tree_or_paper_holds : PySem.Challenge.rw_unpartedrows_k11_whole_tree_or_paper.Holds := by
  refine head_holds ?_
  refine L2.walk_ofE (l := PySem.Challenge.rw_unpartedrows_k11_whole_tree_or_paper) (n := 63) (k := 130) (x := "_law_script") (CX := L2.CX0) rfl (by decide) (by kernel_rfl) ⟨rfl, by decide, by decide⟩ ?F (fun _ _ _ _ z => z)
  intro w mg fa h Y G hmg0
  obtain ⟨K, KX, c⟩ := Y
  have hmg : mg ("law" : PySem.Str) = some (.ref fa) := by
    have e : (HandSHeadRun.topDef (OpenLaw.row PySem.Challenge.rw_unpartedrows_k11_whole_tree_or_paper).prog 53).name = ("law" : PySem.Str) := by kernel_rfl
    rw [← e]
    exact hmg0
  obtain ⟨fd, hb, hF⟩ := UR.facts (P := (PySem.Challenge.rw_unpartedrows_k11_whole_tree_or_paper).prog) (w := w) KX G hmg c
  exact ⟨K, fd, UR.sp_law K, KX, hb, fun H a ns hlen _ hS => ⟨.ref a, rfl, ⟨a, ns, rfl, hS, hlen⟩, fun _ => rfl⟩, hF⟩
