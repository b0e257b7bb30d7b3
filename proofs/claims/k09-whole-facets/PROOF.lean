import PyProof.Rows.All
import Wide.All
import OpenK.AllK
import Wide.FinOn
import HandS.ForMost
import HandS.Deep
import HandS.TupAny
import HandS.Zip
import HandS.IsInst
import HandS.Wide
import HandS.Conv
import HandS.Evl
import HandS.TupSets
import PySem.Challenge.RW_latticepoints_k09_whole_facets
import KE.SortData
import KE.KDictKeyed
import KE.KDictWalk
import KE.KDictCopyH
set_option Elab.async false
set_option linter.all false
set_option maxRecDepth 100000
set_option maxHeartbeats 4000000
/-! Alternating forms with the exchange identity; a point is in a simplex of the points or beyond a face of them. -/
namespace Geo

/-- neighbours change places, the sign turns -/
def Alt {V : Type} (f : List V → Int) : Prop := ∀ (l : List V) (x y : V) (t : List V), f (l ++ x :: y :: t) = - f (l ++ y :: x :: t)

/-- b put in the place of each item in turn, times g of the item -/
def exch {V : Type} (f : List V → Int) (g : V → Int) (b : V) : List V → List V → Int
  | _, [] => 0
  | A, x :: B => f (A ++ b :: B) * g x + exch f g b (A ++ [x]) B

structure Form {V : Type} (f : List V → Int) (r : Nat) : Prop where
  alt : Alt f
  cr : ∀ (L J1 J2 : List V) (b : V), L.length = r → J1.length + J2.length + 1 = r → f L * f (J1 ++ b :: J2) = exch f (fun x => f (J1 ++ x :: J2)) b [] L

theorem nil_or_snoc {V : Type} (l : List V) : l = [] ∨ ∃ (l' : List V) (m : V), l = l' ++ [m] := by
  rcases List.eq_nil_or_concat l with e | ⟨l', m, e⟩
  · exact .inl e
  · exact .inr ⟨l', m, by rw [e, List.concat_eq_append]⟩

section
variable {V : Type} {f : List V → Int}

theorem Alt.snoc (h : Alt f) (m : V) : Alt (fun l => f (l ++ [m])) := fun l x y t => by
  have e := h l x y (t ++ [m])
  simpa using e

theorem Alt.twice (h : Alt f) (m : V) : ∀ (B A C : List V), f (A ++ m :: (B ++ m :: C)) = 0
  | [], A, C => by
    have e := h A m m C
    show f (A ++ m :: m :: C) = 0
    omega
  | y :: B, A, C => by
    have e := h A m y (B ++ m :: C)
    have ih := Alt.twice h m B (A ++ [y]) C
    have e2 : A ++ [y] ++ m :: (B ++ m :: C) = A ++ y :: m :: (B ++ m :: C) := by simp
    rw [e2] at ih
    show f (A ++ m :: y :: (B ++ m :: C)) = 0
    omega

/-- an item moved to the end: zero stays zero -/
theorem Alt.toEnd (h : Alt f) (m : V) : ∀ (B A : List V), f (A ++ m :: B) = f (A ++ B ++ [m]) ∨ f (A ++ m :: B) = - f (A ++ B ++ [m])
  | [], A => by
    left
    simp
  | y :: B, A => by
    have e := h A m y B
    have ih := Alt.toEnd h m B (A ++ [y])
    have e2 : A ++ [y] ++ m :: B = A ++ y :: m :: B := by simp
    have e3 : A ++ [y] ++ B ++ [m] = A ++ y :: B ++ [m] := by simp
    rw [e2, e3] at ih
    rcases ih with ih | ih
    · right
      rw [e, ih]
    · left
      rw [e, ih]
      omega

theorem exch_app (g : V → Int) (b m : V) : ∀ (B A : List V), exch f g b A (B ++ [m]) = exch (fun l => f (l ++ [m])) g b A B + f (A ++ B ++ [b]) * g m
  | [], A => by simp [exch]
  | x :: B, A => by
    have ih := exch_app g b m B (A ++ [x])
    have e1 : A ++ b :: (B ++ [m]) = A ++ b :: B ++ [m] := by simp
    have e2 : A ++ [x] ++ B ++ [b] = A ++ x :: B ++ [b] := by simp
    show f (A ++ b :: (B ++ [m])) * g x + exch f g b (A ++ [x]) (B ++ [m]) = (f (A ++ b :: B ++ [m]) * g x + exch (fun l => f (l ++ [m])) g b (A ++ [x]) B) + f (A ++ x :: B ++ [b]) * g m
    rw [ih, e1, e2]
    omega

theorem Form.snoc {r : Nat} (h : Form f (r + 1)) (m : V) : Form (fun l => f (l ++ [m])) r where
  alt := h.alt.snoc m
  cr := fun L J1 J2 b hL hJ => by
    have e := h.cr (L ++ [m]) J1 (J2 ++ [m]) b (by simp [hL]) (by simp; omega)
    rw [exch_app] at e
    have z : f (J1 ++ m :: (J2 ++ [m])) = 0 := h.alt.twice m J2 J1 []
    rw [z] at e
    have s1 : ∀ x : V, J1 ++ x :: (J2 ++ [m]) = J1 ++ x :: J2 ++ [m] := fun x => by simp
    simp only [s1] at e
    show f (L ++ [m]) * f (J1 ++ b :: J2 ++ [m]) = exch (fun l => f (l ++ [m])) (fun x => f (J1 ++ x :: J2 ++ [m])) b [] L
    rw [e]
    omega

/-- any items with f not 0: so is f of some items in their order -/
theorem Alt.ordered : ∀ (n : Nat) (A : List V) (f : List V → Int) (K : List V), A.length = n → Alt f → (∀ x ∈ K, x ∈ A) → f K ≠ 0 → ∃ K' : List V, K'.Sublist A ∧ K'.length = K.length ∧ f K' ≠ 0 := by
  intro n
  induction n with
  | zero =>
    intro A f K hA h hK hf
    have eA : A = [] := List.eq_nil_of_length_eq_zero hA
    subst eA
    have eK : K = [] := by
      cases K with
      | nil => rfl
      | cons x r => exact absurd (hK x (by simp)) (by simp)
    subst eK
    exact ⟨[], List.Sublist.refl _, rfl, hf⟩
  | succ n ih =>
    intro A f K hA h hK hf
    rcases nil_or_snoc A with e | ⟨A', m, e⟩
    · subst e; simp at hA
    · subst e
      have hA' : A'.length = n := by simpa using hA
      by_cases hm : m ∈ K
      · obtain ⟨P, Q, eK⟩ := List.append_of_mem hm
        subst eK
        have hne : f (P ++ Q ++ [m]) ≠ 0 := by
          rcases h.toEnd m Q P with e | e
          · rw [e] at hf; exact hf
          · rw [e] at hf; omega
        have hin : ∀ x ∈ P ++ Q, x ∈ A' := by
          intro x hx
          have h1 : x ∈ A' ++ [m] := hK x (by
            rcases List.mem_append.mp hx with h1 | h1
            · exact List.mem_append_left _ h1
            · exact List.mem_append_right _ (List.mem_cons_of_mem _ h1))
          rcases List.mem_append.mp h1 with h2 | h2
          · exact h2
          · have e : x = m := by simpa using h2
            subst e
            obtain ⟨P', Q', e2⟩ := List.append_of_mem hx
            have z := h.twice x Q' P' []
            rw [e2] at hne
            exact absurd (by simpa using z) hne
        obtain ⟨K', k1, k2, k3⟩ := ih A' (fun l => f (l ++ [m])) (P ++ Q) hA' (h.snoc m) hin hne
        refine ⟨K' ++ [m], List.Sublist.append k1 (List.Sublist.refl _), ?_, k3⟩
        simp at k2 ⊢
        omega
      · have hin : ∀ x ∈ K, x ∈ A' := by
          intro x hx
          rcases List.mem_append.mp (hK x hx) with h2 | h2
          · exact h2
          · have e : x = m := by simpa using h2
            subst e
            exact absurd hx hm
        obtain ⟨K', k1, k2, k3⟩ := ih A' f K hA' h hin hf
        exact ⟨K', List.Sublist.trans k1 (List.sublist_append_left _ _), k2, k3⟩

/-- the sum over all exchanges keeps a sign -/
theorem exch_sign (g : V → Int) (b : V) (D s : Int) : ∀ (B A : List V), (∀ P x Q, B = P ++ x :: Q → 0 ≤ f (A ++ P ++ b :: Q) * D) → (∀ x ∈ B, 0 ≤ s * g x) → 0 ≤ (D * s) * exch f g b A B
  | [], A, _, _ => by simp [exch]
  | x :: B, A, h1, h2 => by
    have a1 : 0 ≤ f (A ++ b :: B) * D := by simpa using h1 [] x B rfl
    have a2 : 0 ≤ s * g x := h2 x (by simp)
    have ih := exch_sign g b D s B (A ++ [x]) (fun P y Q e => by
      have q := h1 (x :: P) y Q (by rw [e]; rfl)
      simpa using q) (fun y hy => h2 y (List.mem_cons_of_mem _ hy))
    have m1 := Int.mul_nonneg a1 a2
    show 0 ≤ (D * s) * (f (A ++ b :: B) * g x + exch f g b (A ++ [x]) B)
    have e : (D * s) * (f (A ++ b :: B) * g x + exch f g b (A ++ [x]) B) = (f (A ++ b :: B) * D) * (s * g x) + (D * s) * exch f g b (A ++ [x]) B := by grind
    rw [e]
    omega

/-- the items of K make a simplex that holds b -/
def Holds (f : List V → Int) (K : List V) (b : V) : Prop := f K ≠ 0 ∧ ∀ P x Q, K = P ++ x :: Q → 0 ≤ f (P ++ b :: Q) * f K

theorem sq_pos {D : Int} (h : D ≠ 0) : 0 < D * D := by
  rcases Int.lt_or_gt_of_ne h with h | h
  · exact Int.mul_pos_of_neg_of_neg h h
  · exact Int.mul_pos h h

/-- a point of a simplex is on the good side of each face that the corners are on the good side of -/
theorem Form.easy {r : Nat} (h : Form f (r + 1)) {K J : List V} {b : V} {s : Int} (hK : K.length = r + 1) (hJ : J.length = r) (hh : Holds f K b) (hs : ∀ x ∈ K, 0 ≤ s * f (J ++ [x])) : 0 ≤ s * f (J ++ [b]) := by
  obtain ⟨h0, h1⟩ := hh
  have e := h.cr K J [] b hK (by simp; omega)
  have q := exch_sign (f := f) (fun x => f (J ++ [x])) b (f K) s K [] (fun P x Q e => by simpa using h1 P x Q e) hs
  rw [← e] at q
  have p := sq_pos h0
  have e2 : f K * s * (f K * f (J ++ [b])) = (f K * f K) * (s * f (J ++ [b])) := by grind
  rw [e2] at q
  rcases Int.lt_or_le (s * f (J ++ [b])) 0 with c | c
  · have := Int.mul_neg_of_pos_of_neg p c
    omega
  · exact c

def Beyond (f : List V → Int) (r : Nat) (A : List V) (b : V) : Prop :=
  ∃ (J : List V) (s : Int), J.Sublist A ∧ J.length = r ∧ (s = 1 ∨ s = -1) ∧ (∀ x ∈ A, 0 ≤ s * f (J ++ [x])) ∧ s * f (J ++ [b]) < 0

def Within (f : List V → Int) (r : Nat) (A : List V) (b : V) : Prop := ∃ K : List V, K.Sublist A ∧ K.length = r + 1 ∧ Holds f K b

theorem split_snoc {P Q K : List V} {x m : V} (h : K ++ [m] = P ++ x :: Q) : (Q = [] ∧ x = m ∧ P = K) ∨ ∃ Q', Q = Q' ++ [m] ∧ K = P ++ x :: Q' := by
  rcases nil_or_snoc Q with e | ⟨Q', y, e⟩
  · subst e
    have e2 := List.append_inj' h rfl
    left
    refine ⟨rfl, ?_, e2.1.symm⟩
    have e3 := e2.2
    simp at e3
    exact e3.symm
  · subst e
    have h' : K ++ [m] = (P ++ x :: Q') ++ [y] := by simpa using h
    have e2 := List.append_inj' h' rfl
    right
    refine ⟨Q', ?_, e2.1⟩
    have e3 := e2.2
    simp at e3
    rw [e3]

/-- the step: a further point m, a functional c spanned by J among the others -/
theorem Form.step {r : Nat} (h : Form f (r + 2)) {A J : List V} {m b : V} {s : Int} (hJ : J.length = r + 1)
    (below : ∀ f' : List V → Int, Form f' (r + 1) → ∀ b : V, (∃ K : List V, K.Sublist A ∧ K.length = r + 1 ∧ f' K ≠ 0) → Within f' r A b ∨ Beyond f' r A b)
    (jA : J.Sublist A) (hA : ∀ x ∈ A, 0 ≤ s * f (J ++ [x])) (hm : f (J ++ [m]) ≠ 0)
    (hb : (s * f (J ++ [b]) < 0 ∧ s * f (J ++ [m]) < 0) ∨ (0 ≤ s * f (J ++ [b]) ∧ 0 < s * f (J ++ [m]) ∧ ∀ x ∈ A, f (J ++ [x]) = 0)) :
    Within f (r + 1) (A ++ [m]) b ∨ Beyond f (r + 1) (A ++ [m]) b := by
  rcases below (fun l => f (l ++ [m])) (h.snoc m) b ⟨J, jA, hJ, hm⟩ with ⟨K, k1, k2, k3, k4⟩ | ⟨J', s', j1, j2, j3, j4, j5⟩
  · left
    refine ⟨K ++ [m], List.Sublist.append k1 (List.Sublist.refl _), by simp [k2], k3, fun P x Q e => ?_⟩
    rcases split_snoc e with ⟨e1, e2, e3⟩ | ⟨Q', e1, e2⟩
    · subst e1 e2 e3
      -- the last place
      have cr := h.cr (P ++ [x]) J [] b (by simp [k2]) (by simp; omega)
      rw [exch_app] at cr
      have kA : ∀ y ∈ P, y ∈ A := fun y hy => k1.subset hy
      have k3 : f (P ++ [x]) ≠ 0 := k3
      have k4 : ∀ P' y Q, P = P' ++ y :: Q → 0 ≤ f (P' ++ b :: Q ++ [x]) * f (P ++ [x]) := k4
      show 0 ≤ f (P ++ [b]) * f (P ++ [x])
      generalize hD : f (P ++ [x]) = D at *
      generalize hX : f (P ++ [b]) = Y at *
      have cr : D * f (J ++ [b]) = exch (fun l => f (l ++ [x])) (fun x => f (J ++ [x])) b [] P + Y * f (J ++ [x]) := by
        have e0 : f ([] ++ P ++ [b]) = Y := by simpa using hX
        rw [e0] at cr
        exact cr
      have q := exch_sign (f := fun l => f (l ++ [x])) (fun x => f (J ++ [x])) b D s P [] (fun P' y Q e => by
        have z := k4 P' y Q e
        simpa using z) (fun y hy => hA y (kA y hy))
      show 0 ≤ Y * D
      have p := sq_pos k3
      rcases hb with ⟨b1, b2⟩ | ⟨b1, b2, b3⟩
      · rcases Int.lt_or_le (Y * D) 0 with c | c
        · exfalso
          have c1 := Int.mul_pos_of_neg_of_neg c b2
          have c2 := Int.mul_neg_of_pos_of_neg p b1
          have e : D * D * (s * f (J ++ [b])) = D * s * exch (fun l => f (l ++ [x])) (fun x => f (J ++ [x])) b [] P + Y * D * (s * f (J ++ [x])) := by
            have : D * D * (s * f (J ++ [b])) = (D * s) * (D * f (J ++ [b])) := by grind
            rw [this, cr]
            grind
          omega
        · exact c
      · have z : exch (fun l => f (l ++ [x])) (fun x => f (J ++ [x])) b [] P = 0 := by
          have gen : ∀ (B A' : List V), (∀ y ∈ B, f (J ++ [y]) = 0) → exch (fun l => f (l ++ [x])) (fun x => f (J ++ [x])) b A' B = 0 := by
            intro B
            induction B with
            | nil => intro A' _; rfl
            | cons y B ih =>
              intro A' hz
              show f (A' ++ b :: B ++ [x]) * f (J ++ [y]) + exch _ _ b (A' ++ [y]) B = 0
              rw [hz y (by simp), ih _ fun w hw => hz w (List.mem_cons_of_mem _ hw)]
              simp
          exact gen P [] fun y hy => b3 y (kA y hy)
        rw [z] at cr
        rcases Int.lt_or_le (Y * D) 0 with c | c
        · exfalso
          have c1 := Int.mul_neg_of_neg_of_pos c b2
          have c2 := Int.mul_nonneg (Int.le_of_lt p) b1
          have e : D * D * (s * f (J ++ [b])) = Y * D * (s * f (J ++ [x])) := by
            have : D * D * (s * f (J ++ [b])) = (D * s) * (D * f (J ++ [b])) := by grind
            rw [this, cr]
            grind
          omega
        · exact c
    · subst e1
      have z := k4 P x Q' e2
      simpa using z
  · right
    refine ⟨J' ++ [m], -s', List.Sublist.append j1 (List.Sublist.refl _), by simp [j2], by omega, fun x hx => ?_, ?_⟩
    · have a := h.alt J' m x []
      have e : J' ++ [m] ++ [x] = J' ++ m :: x :: [] := by simp
      rw [e, a]
      have e2 : J' ++ x :: m :: [] = J' ++ [x] ++ [m] := by simp
      rw [e2]
      rcases List.mem_append.mp hx with hx | hx
      · have q := j4 x hx
        have : -s' * -f (J' ++ [x] ++ [m]) = s' * f (J' ++ [x] ++ [m]) := by grind
        rw [this]
        exact q
      · have ex : x = m := by simpa using hx
        subst ex
        have z := h.alt.twice x [] J' []
        have : f (J' ++ [x] ++ [x]) = 0 := by simpa using z
        rw [this]
        simp
    · have a := h.alt J' m b []
      have e : J' ++ [m] ++ [b] = J' ++ m :: b :: [] := by simp
      rw [e, a]
      have e2 : J' ++ b :: m :: [] = J' ++ [b] ++ [m] := by simp
      rw [e2]
      have : -s' * -f (J' ++ [b] ++ [m]) = s' * f (J' ++ [b] ++ [m]) := by grind
      rw [this]
      exact j5

/-- a point is in a simplex of the points, or beyond a face of them -/
theorem weyl : ∀ (r : Nat) (f : List V → Int), Form f (r + 1) → ∀ (n : Nat) (A : List V), A.length = n → ∀ b : V, (∃ K : List V, K.Sublist A ∧ K.length = r + 1 ∧ f K ≠ 0) → Within f r A b ∨ Beyond f r A b := by
  intro r
  induction r with
  | zero =>
    intro f h n A _ b ⟨K, k1, k2, k3⟩
    have one : ∀ {x : V}, x ∈ A → [x].Sublist A := fun hx => List.singleton_sublist.mpr hx
    obtain ⟨x, rfl⟩ : ∃ x, K = [x] := by
      match K, k2 with
      | [x], _ => exact ⟨x, rfl⟩
    have hx : x ∈ A := k1.subset (by simp)
    have mk : ∀ y ∈ A, f [y] ≠ 0 → 0 ≤ f [b] * f [y] → Within f 0 A b := fun y hy h0 h1 =>
      ⟨[y], one hy, rfl, h0, fun P z Q e => by
        have hP : P = [] ∧ z = y ∧ Q = [] := by
          cases P with
          | nil => simpa [eq_comm] using e
          | cons p P => simp at e
        obtain ⟨rfl, rfl, rfl⟩ := hP
        exact h1⟩
    rcases Int.lt_trichotomy (f [b]) 0 with c | c | c
    · by_cases hn : ∃ y ∈ A, f [y] < 0
      · obtain ⟨y, hy, hn⟩ := hn
        exact .inl (mk y hy (by omega) (Int.le_of_lt (Int.mul_pos_of_neg_of_neg c hn)))
      · refine .inr ⟨[], 1, List.nil_sublist _, rfl, .inl rfl, fun y hy => ?_, ?_⟩
        · have : ¬ f [y] < 0 := fun z => hn ⟨y, hy, z⟩
          show 0 ≤ 1 * f [y]
          omega
        · show 1 * f [b] < 0
          omega
    · exact .inl (mk x hx k3 (by rw [c]; simp))
    · by_cases hn : ∃ y ∈ A, 0 < f [y]
      · obtain ⟨y, hy, hn⟩ := hn
        exact .inl (mk y hy (by omega) (Int.le_of_lt (Int.mul_pos c hn)))
      · refine .inr ⟨[], -1, List.nil_sublist _, rfl, .inr rfl, fun y hy => ?_, ?_⟩
        · have : ¬ 0 < f [y] := fun z => hn ⟨y, hy, z⟩
          show 0 ≤ -1 * f [y]
          omega
        · show -1 * f [b] < 0
          omega
  | succ r ihr =>
    intro f h n
    induction n with
    | zero =>
      intro A hA b ⟨K, k1, k2, _⟩
      have eA : A = [] := List.eq_nil_of_length_eq_zero hA
      subst eA
      have := k1.length_le
      rw [k2] at this
      simp at this
    | succ n ihn =>
      intro A hA b sp
      rcases nil_or_snoc A with e | ⟨A', m, e⟩
      · subst e; simp at hA
      · subst e
        have hA' : A'.length = n := by simpa using hA
        have below : ∀ f' : List V → Int, Form f' (r + 1) → ∀ b : V, (∃ K : List V, K.Sublist A' ∧ K.length = r + 1 ∧ f' K ≠ 0) → Within f' r A' b ∨ Beyond f' r A' b :=
          fun f' h' b' k => ihr f' h' n A' hA' b' k
        by_cases sp' : ∃ K : List V, K.Sublist A' ∧ K.length = r + 2 ∧ f K ≠ 0
        · rcases ihn A' hA' b sp' with ⟨K, k1, k2, k3⟩ | ⟨J, s, j1, j2, j3, j4, j5⟩
          · exact .inl ⟨K, List.Sublist.trans k1 (List.sublist_append_left _ _), k2, k3⟩
          · rcases Int.lt_or_le (s * f (J ++ [m])) 0 with c | c
            · exact h.step j2 below j1 j4 (fun z => by rw [z] at c; simp at c) (.inl ⟨j5, c⟩)
            · refine .inr ⟨J, s, List.Sublist.trans j1 (List.sublist_append_left _ _), j2, j3, fun x hx => ?_, j5⟩
              rcases List.mem_append.mp hx with hx | hx
              · exact j4 x hx
              · have e : x = m := by simpa using hx
                subst e
                exact c
        · -- the others lie in a plane
          obtain ⟨K, k1, k2, k3⟩ := sp
          obtain ⟨K1, K2, rfl, q1, q2⟩ := List.sublist_append_iff.mp k1
          have e2 : K2 = [m] := by
            rcases nil_or_snoc K2 with e | ⟨_, _, e⟩
            · subst e
              exact absurd ⟨K1, q1, by simpa using k2, by simpa using k3⟩ sp'
            · cases q2 with
              | cons _ q => 
                have : K2 = [] := by simpa using q
                subst this
                simp at e
              | cons_cons _ q =>
                have e3 := List.sublist_nil.mp q
                rw [e3]
          subst e2
          have l1 : K1.length = r + 1 := by simpa using k2
          have flat : ∀ x ∈ A', f (K1 ++ [x]) = 0 := fun x hx => by
            by_cases z : f (K1 ++ [x]) = 0
            · exact z
            · exfalso
              obtain ⟨K', a1, a2, a3⟩ := Alt.ordered A'.length A' f (K1 ++ [x]) rfl h.alt (fun y hy => by
                rcases List.mem_append.mp hy with hy | hy
                · exact q1.subset hy
                · have e : y = x := by simpa using hy
                  rw [e]; exact hx) z
              exact sp' ⟨K', a1, by rw [a2]; simp [l1], a3⟩
          have fin : ∀ s : Int, (s = 1 ∨ s = -1) → 0 < s * f (K1 ++ [m]) → Within f (r + 1) (A' ++ [m]) b ∨ Beyond f (r + 1) (A' ++ [m]) b := fun s hs pos => by
            have nn : ∀ x ∈ A', 0 ≤ s * f (K1 ++ [x]) := fun x hx => by rw [flat x hx]; simp
            rcases Int.lt_or_le (s * f (K1 ++ [b])) 0 with c | c
            · refine .inr ⟨K1, s, List.Sublist.trans q1 (List.sublist_append_left _ _), l1, hs, fun x hx => ?_, c⟩
              rcases List.mem_append.mp hx with hx | hx
              · exact nn x hx
              · have e : x = m := by simpa using hx
                subst e
                omega
            · exact h.step l1 below q1 nn k3 (.inr ⟨c, pos, flat⟩)
          rcases Int.lt_or_gt_of_ne k3 with c | c
          · exact fin (-1) (.inr rfl) (by omega)
          · exact fin 1 (.inl rfl) (by omega)
end
end Geo

/-! The determinant forms of one, two, three dimensions. -/
namespace Geo
/-- a coordinate -/
def co (v : List Int) (k : Nat) : Int := v.getD k 0
def dd3 (x0 x1 x2 y0 y1 y2 z0 z1 z2 : Int) : Int := x0 * (y1 * z2 - y2 * z1) - x1 * (y0 * z2 - y2 * z0) + x2 * (y0 * z1 - y1 * z0)

def f1 : List (List Int) → Int
  | [a, b] => co b 0 - co a 0
  | _ => 0
def f2 : List (List Int) → Int
  | [a, b, c] => (co b 0 - co a 0) * (co c 1 - co a 1) - (co b 1 - co a 1) * (co c 0 - co a 0)
  | _ => 0
def f3 : List (List Int) → Int
  | [a, b, c, e] => dd3 (co b 0 - co a 0) (co b 1 - co a 1) (co b 2 - co a 2) (co c 0 - co a 0) (co c 1 - co a 1) (co c 2 - co a 2) (co e 0 - co a 0) (co e 1 - co a 1) (co e 2 - co a 2)
  | _ => 0

theorem alt1 : Alt f1 := by
  intro l x y t
  rcases l with _ | ⟨a, _ | ⟨e, l⟩⟩ <;> rcases t with _ | ⟨b, t⟩ <;> simp [f1] <;> try grind
theorem form1 : Form f1 2 := by
  refine ⟨alt1, fun L J1 J2 b hL hJ => ?_⟩
  obtain ⟨p, q, rfl⟩ : ∃ p q, L = [p, q] := by
    match L, hL with
    | [p, q], _ => exact ⟨p, q, rfl⟩
  rcases J1 with _ | ⟨j, _ | ⟨k, J1⟩⟩ <;> rcases J2 with _ | ⟨i, _ | ⟨h, J2⟩⟩ <;> simp at hJ <;> first | omega | (simp [f1, exch]; grind)

theorem alt2 : Alt f2 := by
  intro l x y t
  rcases l with _ | ⟨a, _ | ⟨b, _ | ⟨e, l⟩⟩⟩ <;> rcases t with _ | ⟨c, _ | ⟨d, t⟩⟩ <;> simp [f2] <;> try grind
theorem form2 : Form f2 3 := by
  refine ⟨alt2, fun L J1 J2 b hL hJ => ?_⟩
  obtain ⟨p, q, r, rfl⟩ : ∃ p q r, L = [p, q, r] := by
    match L, hL with
    | [p, q, r], _ => exact ⟨p, q, r, rfl⟩
  rcases J1 with _ | ⟨j, _ | ⟨k, _ | ⟨k2, J1⟩⟩⟩ <;> rcases J2 with _ | ⟨i, _ | ⟨h, _ | ⟨h2, J2⟩⟩⟩ <;> simp at hJ <;> first | omega | (simp [f2, exch]; grind)

theorem alt3 : Alt f3 := by
  intro l x y t
  rcases l with _ | ⟨a, _ | ⟨b, _ | ⟨z, l⟩⟩⟩ <;> rcases t with _ | ⟨c, _ | ⟨d, _ | ⟨e, t⟩⟩⟩ <;> simp [f3, dd3] <;> try grind
  all_goals (rcases l with _ | ⟨e, l⟩ <;> simp)

/-- each coordinate, and 1, by exchanges -/
theorem mix3 (a b c e p : List Int) :
    f3 [a, b, c, e] = f3 [p, b, c, e] + f3 [a, p, c, e] + f3 [a, b, p, e] + f3 [a, b, c, p] := by
  simp only [f3, dd3]; grind
theorem mixc3 (k : Nat) (hk : k = 0 ∨ k = 1 ∨ k = 2) (a b c e p : List Int) :
    f3 [a, b, c, e] * co p k = f3 [p, b, c, e] * co a k + f3 [a, p, c, e] * co b k + f3 [a, b, p, e] * co c k + f3 [a, b, c, p] * co e k := by
  rcases hk with rfl | rfl | rfl <;> simp only [f3, dd3] <;> grind
/-- in its first place the form is affine -/
theorem aff3 (i h g : List Int) : ∃ u0 u1 u2 u3 : Int, ∀ x, f3 [x, i, h, g] = u0 * co x 0 + u1 * co x 1 + u2 * co x 2 + u3 := by
  refine ⟨-((co h 1 - co i 1) * (co g 2 - co i 2) - (co h 2 - co i 2) * (co g 1 - co i 1)), (co h 0 - co i 0) * (co g 2 - co i 2) - (co h 2 - co i 2) * (co g 0 - co i 0), -((co h 0 - co i 0) * (co g 1 - co i 1) - (co h 1 - co i 1) * (co g 0 - co i 0)),
    co i 0 * ((co h 1 - co i 1) * (co g 2 - co i 2) - (co h 2 - co i 2) * (co g 1 - co i 1)) - co i 1 * ((co h 0 - co i 0) * (co g 2 - co i 2) - (co h 2 - co i 2) * (co g 0 - co i 0)) + co i 2 * ((co h 0 - co i 0) * (co g 1 - co i 1) - (co h 1 - co i 1) * (co g 0 - co i 0)), fun x => ?_⟩
  simp only [f3, dd3]; grind
theorem form3 : Form f3 4 := by
  refine ⟨alt3, fun L J1 J2 b hL hJ => ?_⟩
  obtain ⟨p, q, r, s, rfl⟩ : ∃ p q r s, L = [p, q, r, s] := by
    match L, hL with
    | [p, q, r, s], _ => exact ⟨p, q, r, s, rfl⟩
  have m := mix3 p q r s b
  have m0 := mixc3 0 (.inl rfl) p q r s b
  have m1 := mixc3 1 (.inr (.inl rfl)) p q r s b
  have m2 := mixc3 2 (.inr (.inr rfl)) p q r s b
  simp only [exch, List.nil_append, List.cons_append]
  generalize f3 [p, q, r, s] = F at *
  generalize f3 [b, q, r, s] = F0 at *
  generalize f3 [p, b, r, s] = F1 at *
  generalize f3 [p, q, b, s] = F2 at *
  generalize f3 [p, q, r, b] = F3 at *
  have aff : ∃ u0 u1 u2 u3 : Int, ∀ x, f3 (J1 ++ x :: J2) = u0 * co x 0 + u1 * co x 1 + u2 * co x 2 + u3 := by
    have neg : ∀ (i h g : List Int) (G : List Int → Int), (∀ x, G x = - f3 [x, i, h, g]) → ∃ u0 u1 u2 u3 : Int, ∀ x, G x = u0 * co x 0 + u1 * co x 1 + u2 * co x 2 + u3 := by
      intro i h g G hG
      obtain ⟨u0, u1, u2, u3, e⟩ := aff3 i h g
      exact ⟨-u0, -u1, -u2, -u3, fun x => by rw [hG, e]; grind⟩
    rcases J1 with _ | ⟨j, _ | ⟨k, _ | ⟨k2, _ | ⟨k3, J1⟩⟩⟩⟩ <;> rcases J2 with _ | ⟨i, _ | ⟨h, _ | ⟨h2, _ | ⟨h3, J2⟩⟩⟩⟩ <;> simp at hJ <;> try omega
    · exact aff3 i h h2
    · exact neg j i h _ fun x => alt3 [] j x [i, h]
    · obtain ⟨u0, u1, u2, u3, e⟩ := aff3 j k i
      refine ⟨u0, u1, u2, u3, fun x => ?_⟩
      have a1 := alt3 [j] k x [i]
      have a2 := alt3 [] j x [k, i]
      simp only [List.nil_append, List.cons_append] at a1 a2 ⊢
      rw [a1, a2, e]; grind
    · refine neg j k k2 _ fun x => ?_
      have a1 := alt3 [j, k] k2 x []
      have a2 := alt3 [j] k x [k2]
      have a3 := alt3 [] j x [k, k2]
      simp only [List.nil_append, List.cons_append] at a1 a2 a3 ⊢
      rw [a1, a2, a3]; grind
  obtain ⟨u0, u1, u2, u3, hu⟩ := aff
  rw [hu, hu, hu, hu, hu]
  grind
end Geo

/-! A layer over HandS: expressions evaluated to plain data; B is the part of the heap that holds data and never changes. -/
namespace LW
open PySem PySem.Spec PyProof.Rows L2

/-! ### heaps (Ex, .refl, .trans, .new, .mut: HandS.Evl) -/
end LW
namespace Evl
open PySem L2
theorem Ex.both {H H' : Hp} {p : Addr} {o : HO} (e : Ex H H') : Ex (upd H p o) (upd H' p o) := fun a u ha => by
  by_cases h : a = p
  · subst h
    rw [upd_same] at ha ⊢
    exact ha
  · rw [upd_ne h] at ha ⊢
    exact e a u ha
theorem Ex.back {H H' : Hp} {p : Addr} (e : Ex H H') (h : H' p = none) : H p = none := fresh_back e h
end Evl
namespace LW
open PySem PySem.Spec PyProof.Rows L2
open Evl (Ex)
/-- data part and heap before, data part and heap behind -/
structure Wd (B H B' H' : Hp) : Prop where
  b : Ex B B'
  i : Ex B' H'
  h : Ex H H'
  fr : ∀ a o, B' a = some o → B a = none → H a = none
theorem Wd.refl {B H : Hp} (e : Ex B H) : Wd B H B H := ⟨Ex.refl B, e, Ex.refl H, fun a o h n => by rw [h] at n; cases n⟩
theorem Wd.trans {B H B1 H1 B2 H2 : Hp} (x : Wd B H B1 H1) (y : Wd B1 H1 B2 H2) : Wd B H B2 H2 := by
  refine ⟨x.b.trans y.b, y.i, x.h.trans y.h, fun a o h n => ?_⟩
  cases q : B1 a with
  | some u => exact x.fr a u q n
  | none => exact x.h.back (y.fr a o h q)
/-- a new object of data -/
theorem Wd.new {B H : Hp} {p : Addr} {o : HO} (e : Ex B H) (h : H p = none) : Wd B H (upd B p o) (upd H p o) :=
  ⟨Ex.new (e.back h), e.both, Ex.new h, fun a u q n => by
    by_cases z : a = p
    · rw [z]; exact h
    · rw [upd_ne z, n] at q; cases q⟩
/-- a new object that is no data -/
theorem Wd.side {B H : Hp} {p : Addr} {o : HO} (e : Ex B H) (h : H p = none) : Wd B H B (upd H p o) :=
  ⟨Ex.refl B, e.trans (Ex.new h), Ex.new h, fun a u q n => by rw [q] at n; cases n⟩

/-! ### data -/
mutual
inductive Dd (B : Hp) : V → PyData → Prop
  | non : Dd B .non .none
  | bl (b : Bool) : Dd B (.bl b) (.bool b)
  | int (i : Int) : Dd B (.int i) (.int i)
  | lst {a : Addr} {xs : List V} {ds : List PyData} : B a = some (.lst xs) → DdA B xs ds → Dd B (.ref a) (.list ds)
  | tup {a : Addr} {xs : List V} {ds : List PyData} : B a = some (.tup xs) → DdA B xs ds → Dd B (.ref a) (.tuple ds)
inductive DdA (B : Hp) : List V → List PyData → Prop
  | nil : DdA B [] []
  | cons {v : V} {vs : List V} {d : PyData} {ds : List PyData} : Dd B v d → DdA B vs ds → DdA B (v :: vs) (d :: ds)
end
mutual
theorem Dd.mono {B B' : Hp} (e : Ex B B') : ∀ (d : PyData) (v : V), Dd B v d → Dd B' v d
  | .none, _, h => by cases h; exact .non
  | .bool b, _, h => by cases h; exact .bl b
  | .int i, _, h => by cases h; exact .int i
  | .str x, _, h => by cases h
  | .list ds, _, h => by
    cases h with
    | lst h1 h2 => exact .lst (e _ _ h1) (DdA.mono e ds _ h2)
  | .tuple ds, _, h => by
    cases h with
    | tup h1 h2 => exact .tup (e _ _ h1) (DdA.mono e ds _ h2)
  | .dict _, _, h => by cases h
theorem DdA.mono {B B' : Hp} (e : Ex B B') : ∀ (ds : List PyData) (vs : List V), DdA B vs ds → DdA B' vs ds
  | [], _, h => by cases h; exact .nil
  | d :: ds, _, h => by
    cases h with
    | cons h1 h2 => exact .cons (Dd.mono e d _ h1) (DdA.mono e ds _ h2)
end
mutual
theorem Dd.dp {B H : Hp} {K : PySem.W.Frag} (e : Ex B H) : ∀ (d : PyData) (v : V), Dd B v d → Dp K H v d
  | .none, _, h => by cases h; exact .non
  | .bool b, _, h => by cases h; exact .bl b
  | .int i, _, h => by cases h; exact .int i
  | .str x, _, h => by cases h
  | .list ds, _, h => by
    cases h with
    | lst h1 h2 => exact .lst (SqL.of (e _ _ h1)) (DdA.dp e ds _ h2)
  | .tuple ds, _, h => by
    cases h with
    | tup h1 h2 => exact .tup (SqT.of (e _ _ h1)) (DdA.dp e ds _ h2)
  | .dict _, _, h => by cases h
theorem DdA.dp {B H : Hp} {K : PySem.W.Frag} (e : Ex B H) : ∀ (ds : List PyData) (vs : List V), DdA B vs ds → DpAll K H vs ds
  | [], _, h => by cases h; exact .nil
  | d :: ds, _, h => by
    cases h with
    | cons h1 h2 => exact .cons (Dd.dp e d _ h1) (DdA.dp e ds _ h2)
end
theorem Dd.up {B B' : Hp} {d : PyData} {v : V} (h : Dd B v d) (e : Ex B B') : Dd B' v d := Dd.mono e d v h
theorem DdA.up {B B' : Hp} {ds : List PyData} {vs : List V} (h : DdA B vs ds) (e : Ex B B') : DdA B' vs ds := DdA.mono e ds vs h
theorem DdA.len {B : Hp} : ∀ {vs : List V} {ds : List PyData}, DdA B vs ds → vs.length = ds.length
  | _, _, .nil => rfl
  | _, _, .cons _ t => by
    rw [List.length_cons, List.length_cons, DdA.len t]
theorem DdA.get {B : Hp} : ∀ {vs : List V} {ds : List PyData} {i : Nat} {d : PyData}, DdA B vs ds → ds[i]? = some d → ∃ v, vs[i]? = some v ∧ Dd B v d
  | _, _, _, _, .nil, h => by simp at h
  | _, _, 0, d, .cons h1 _, h => by
    simp at h
    subst h
    exact ⟨_, rfl, h1⟩
  | _, _, i + 1, d, .cons _ t, h => by
    obtain ⟨v, e1, e2⟩ := DdA.get (i := i) t (by simpa using h)
    exact ⟨v, by simpa using e1, e2⟩
theorem DdA.app {B : Hp} : ∀ {vs ws : List V} {ds es : List PyData}, DdA B vs ds → DdA B ws es → DdA B (vs ++ ws) (ds ++ es)
  | _, _, _, _, .nil, h => h
  | _, _, _, _, .cons h1 t, h => .cons h1 (DdA.app t h)
theorem DdA.take {B : Hp} : ∀ {vs : List V} {ds : List PyData} (n : Nat), DdA B vs ds → DdA B (vs.take n) (ds.take n)
  | _, _, 0, _ => .nil
  | _, _, _ + 1, .nil => .nil
  | _, _, n + 1, .cons h t => .cons h (DdA.take n t)
theorem DdA.drop {B : Hp} : ∀ {vs : List V} {ds : List PyData} (n : Nat), DdA B vs ds → DdA B (vs.drop n) (ds.drop n)
  | _, _, 0, h => h
  | _, _, _ + 1, .nil => .nil
  | _, _, n + 1, .cons _ t => DdA.drop n t
theorem DdA.set {B : Hp} {v : V} {d : PyData} (h : Dd B v d) : ∀ {vs : List V} {ds : List PyData} (n : Nat), DdA B vs ds → DdA B (vs.set n v) (ds.set n d)
  | _, _, _, .nil => .nil
  | _, _, 0, .cons _ t => .cons h t
  | _, _, n + 1, .cons q t => .cons q (DdA.set h n t)
theorem DdA.ints {B : Hp} : ∀ {vs : List V} {ns : List Int}, DdA B vs (ns.map .int) → vs = ns.map V.int
  | _, [], h => by cases h; rfl
  | _, n :: ns, h => by
    cases h with
    | cons h1 h2 =>
      cases h1
      rw [DdA.ints h2]
      rfl
theorem DdA.ofInts {B : Hp} : ∀ (ns : List Int), DdA B (ns.map V.int) (ns.map .int)
  | [] => .nil
  | n :: ns => .cons (.int n) (DdA.ofInts ns)
theorem DdA.one {B : Hp} {vs : List V} {d : PyData} (h : DdA B vs [d]) : ∃ v, vs = [v] ∧ Dd B v d := by
  cases h with
  | cons h1 h2 =>
    cases h2
    exact ⟨_, rfl, h1⟩
theorem DdA.two {B : Hp} {vs : List V} {d e : PyData} (h : DdA B vs [d, e]) : ∃ v w, vs = [v, w] ∧ Dd B v d ∧ Dd B w e := by
  cases h with
  | cons h1 h2 =>
    obtain ⟨w, rfl, hw⟩ := h2.one
    exact ⟨_, w, rfl, h1, hw⟩

/-! ### slots -/
abbrev OwnP := Hp → HO → Prop
def MonP (p : OwnP) : Prop := ∀ B B' o, Ex B B' → p B o → p B' o
inductive Slot where
  | any
  | dat (d : PyData)
  | own (a : Addr) (p : OwnP)
def lstP (ds : List PyData) : OwnP := fun B o => ∃ xs, o = .lst xs ∧ DdA B xs ds
theorem lstP.mon (ds : List PyData) : MonP (lstP ds) := fun B B' o e ⟨xs, h, k⟩ => ⟨xs, h, k.up e⟩
def SlotOk (B H : Hp) : Slot → Option V → Prop
  | .any, _ => True
  | .dat d, x => ∃ v, x = some v ∧ Dd B v d
  | .own a p, x => x = some (.ref a) ∧ B a = none ∧ (∃ o, H a = some o ∧ p B o) ∧ MonP p
abbrev EnvT := List Slot
def owned : EnvT → List Addr
  | [] => []
  | .own a _ :: r => a :: owned r
  | .any :: r => owned r
  | .dat _ :: r => owned r
structure EnvOk (B H : Hp) (env : EnvT) (σ : L2.St) : Prop where
  len : env.length = σ.length
  at_ : ∀ (i : Nat) (s : Slot), env[i]? = some s → ∃ x : Option V, σ[i]? = some x ∧ SlotOk B H s x
  nd : (owned env).Nodup

theorem mem_owned : ∀ {env : EnvT} {a : Addr}, a ∈ owned env → ∃ (i : Nat) (p : OwnP), env[i]? = some (Slot.own a p)
  | .own b p :: r, a, h => by
    rcases List.mem_cons.mp (show a ∈ b :: owned r from h) with e | h
    · subst e
      exact ⟨0, p, rfl⟩
    · obtain ⟨i, p, e⟩ := mem_owned h
      exact ⟨i + 1, p, by simpa using e⟩
  | .any :: r, a, h => by
    obtain ⟨i, p, e⟩ := mem_owned (env := r) h
    exact ⟨i + 1, p, by simpa using e⟩
  | .dat _ :: r, a, h => by
    obtain ⟨i, p, e⟩ := mem_owned (env := r) h
    exact ⟨i + 1, p, by simpa using e⟩
theorem owned_mem : ∀ {env : EnvT} {a : Addr} {i : Nat} {p : OwnP}, env[i]? = some (.own a p) → a ∈ owned env
  | [], _, _, _, h => by simp at h
  | s :: r, a, 0, p, h => by
    have e : s = .own a p := by simpa using h
    subst e
    exact List.mem_cons_self
  | s :: r, a, i + 1, p, h => by
    have q : a ∈ owned r := owned_mem (i := i) (p := p) (by simpa using h)
    cases s with
    | any => exact q
    | dat _ => exact q
    | own b _ => exact List.mem_cons_of_mem _ q
theorem EnvOk.own_at {B H : Hp} {env : EnvT} {σ : L2.St} (e : EnvOk B H env σ) {a : Addr} (h : a ∈ owned env) : B a = none ∧ ∃ o, H a = some o := by
  obtain ⟨i, p, q⟩ := mem_owned h
  obtain ⟨x, _, _, h1, ⟨o, h2, _⟩, _⟩ := e.at_ i _ q
  exact ⟨h1, o, h2⟩
theorem EnvOk.go {B H B' H' : Hp} {env : EnvT} {σ : L2.St} (e : EnvOk B H env σ) (hb : Ex B B') (hh : ∀ a ∈ owned env, ∀ o, H a = some o → H' a = some o) (hn : ∀ a ∈ owned env, B' a = none) : EnvOk B' H' env σ := by
  refine ⟨e.len, fun i s h => ?_, e.nd⟩
  obtain ⟨x, h1, h2⟩ := e.at_ i s h
  refine ⟨x, h1, ?_⟩
  cases s with
  | any => trivial
  | dat d =>
    obtain ⟨v, e1, e2⟩ := h2
    exact ⟨v, e1, e2.up hb⟩
  | own a p =>
    obtain ⟨e1, e2, ⟨o, e3, e4⟩, e5⟩ := h2
    have m := owned_mem h
    exact ⟨e1, hn a m, ⟨o, hh a m o e3, e5 _ _ _ hb e4⟩, e5⟩
theorem EnvOk.wd {B H B' H' : Hp} {env : EnvT} {σ : L2.St} (e : EnvOk B H env σ) (w : Wd B H B' H') : EnvOk B' H' env σ :=
  e.go w.b (fun a _ o h => w.h a o h) fun a h => by
    obtain ⟨h1, o, h2⟩ := e.own_at h
    cases q : B' a with
    | none => rfl
    | some u =>
      have := w.fr a u q h1
      rw [h2] at this
      cases this
/-- the slot's owner, if it owns -/
def ownerOf : Slot → List Addr
  | .own a _ => [a]
  | _ => []
theorem owned_cons (s : Slot) (r : EnvT) : owned (s :: r) = ownerOf s ++ owned r := by
  cases s <;> rfl
theorem owned_set_mem : ∀ {env : EnvT} {i : Nat} {s : Slot} {a : Addr}, a ∈ owned (env.set i s) → a ∈ ownerOf s ∨ a ∈ owned env
  | [], _, _, _, h => by
    have h' : _ ∈ owned [] := h
    cases h'
  | t :: r, 0, s, a, h => by
    rw [List.set_cons_zero, owned_cons] at h
    rw [owned_cons]
    rcases List.mem_append.mp h with h | h
    · exact .inl h
    · exact .inr (List.mem_append_right _ h)
  | t :: r, i + 1, s, a, h => by
    rw [List.set_cons_succ, owned_cons] at h
    rw [owned_cons]
    rcases List.mem_append.mp h with h | h
    · exact .inr (List.mem_append_left _ h)
    · rcases owned_set_mem h with h | h
      · exact .inl h
      · exact .inr (List.mem_append_right _ h)
theorem owned_set_nd : ∀ {env : EnvT} {i : Nat} {s : Slot}, (owned env).Nodup → (∀ a ∈ ownerOf s, a ∉ owned env ∨ ∃ p, env[i]? = some (.own a p)) → (owned (env.set i s)).Nodup
  | [], _, _, h, _ => h
  | t :: r, 0, s, h, k => by
    rw [List.set_cons_zero, owned_cons]
    rw [owned_cons] at h
    obtain ⟨_, h2, h3⟩ := List.nodup_append.mp h
    refine List.nodup_append.mpr ⟨by cases s <;> simp [ownerOf], h2, fun a ha b hb e => ?_⟩
    subst e
    rcases k a ha with z | ⟨p, z⟩
    · rw [owned_cons] at z
      exact z (List.mem_append_right _ hb)
    · have e : t = .own a p := by simpa using z
      subst e
      exact h3 a (by simp [ownerOf]) a hb rfl
  | t :: r, i + 1, s, h, k => by
    rw [List.set_cons_succ, owned_cons]
    rw [owned_cons] at h
    obtain ⟨h1, h2, h3⟩ := List.nodup_append.mp h
    have k' : ∀ a ∈ ownerOf s, a ∉ owned r ∨ ∃ p, r[i]? = some (.own a p) := fun a ha => by
      rcases k a ha with z | ⟨p, z⟩
      · rw [owned_cons] at z
        exact .inl fun q => z (List.mem_append_right _ q)
      · exact .inr ⟨p, by simpa using z⟩
    refine List.nodup_append.mpr ⟨h1, owned_set_nd h2 k', fun a ha b hb e => ?_⟩
    subst e
    rcases owned_set_mem hb with z | z
    · rcases k a z with q | ⟨p, q⟩
      · rw [owned_cons] at q
        exact q (List.mem_append_left _ ha)
      · have q' : r[i]? = some (.own a p) := by simpa using q
        exact h3 a ha a (owned_mem q') rfl
    · exact h3 a ha a z rfl
theorem EnvOk.set {B H : Hp} {env : EnvT} {σ : L2.St} {i : Nat} {s : Slot} {x : Option V} (e : EnvOk B H env σ) (hs : SlotOk B H s x) (hn : ∀ a ∈ ownerOf s, a ∉ owned env ∨ ∃ p, env[i]? = some (.own a p)) : EnvOk B H (env.set i s) (σ.set i x) := by
  refine ⟨by rw [List.length_set, List.length_set]; exact e.len, fun j t h => ?_, owned_set_nd e.nd hn⟩
  by_cases hj : i = j
  · subst hj
    have hl : i < env.length := by
      have := (List.getElem?_eq_some_iff.mp h).1
      rw [List.length_set] at this
      exact this
    rw [List.getElem?_set_self hl] at h
    have h' : s = t := Option.some.inj h
    subst h'
    exact ⟨x, List.getElem?_set_self (by rw [← e.len]; exact hl), hs⟩
  · rw [List.getElem?_set_ne hj] at h ⊢
    exact e.at_ j t h
theorem EnvOk.setD {B H : Hp} {env : EnvT} {σ : L2.St} {i : Nat} {d : PyData} {v : V} (e : EnvOk B H env σ) (h : Dd B v d) : EnvOk B H (env.set i (.dat d)) (σ.set i (some v)) :=
  e.set ⟨v, rfl, h⟩ fun a ha => by cases ha
theorem EnvOk.setAny {B H : Hp} {env : EnvT} {σ : L2.St} {i : Nat} (x : Option V) (e : EnvOk B H env σ) : EnvOk B H (env.set i .any) (σ.set i x) :=
  e.set trivial fun a ha => by cases ha
/-- the slots of a comprehension's own names forgotten -/
def wipeE (env : EnvT) : List Nat → EnvT
  | [] => env
  | v :: vs => (wipeE env vs).set v .any
theorem EnvOk.wipe {B H : Hp} {env : EnvT} {σ : L2.St} (e : EnvOk B H env σ) : ∀ vs : List Nat, EnvOk B H (wipeE env vs) (L2.wipe σ vs)
  | [] => e
  | v :: vs => (EnvOk.wipe e vs).setAny none
theorem owned_wipe {env : EnvT} : ∀ {vs : List Nat} {a : Addr}, a ∈ owned (wipeE env vs) → a ∈ owned env
  | [], _, h => h
  | v :: vs, a, h => by
    rcases owned_set_mem (show a ∈ owned ((wipeE env vs).set v .any) from h) with z | z
    · cases z
    · exact owned_wipe z

/-! ### judgements -/
def DE (t : TE) (env : EnvT) (d : PyData) : Prop := ∀ (B : Hp) (σ : L2.St) (H : Hp) (Q : VK), Ex B H → EnvOk B H env σ → (∀ v B' H', Wd B H B' H' → Dd B' v d → Q v H') → t σ H Q
def DT (t : TT) (env : EnvT) (b : Bool) : Prop := ∀ (B : Hp) (σ : L2.St) (H : Hp) (Q : Bool → Hp → Prop), Ex B H → EnvOk B H env σ → (∀ B' H', Wd B H B' H' → Q b H') → t σ H Q
def DA (t : TA) (env : EnvT) (ds : List PyData) : Prop := ∀ (B : Hp) (σ : L2.St) (H : Hp) (Q : List V → Hp → Prop), Ex B H → EnvOk B H env σ → (∀ vs B' H', Wd B H B' H' → DdA B' vs ds → Q vs H') → t σ H Q
def DO (t : TO) (env : EnvT) (o : Option Int) : Prop := ∀ (B : Hp) (σ : L2.St) (H : Hp) (Q : Option Int → Hp → Prop), Ex B H → EnvOk B H env σ → (∀ B' H', Wd B H B' H' → Q o H') → t σ H Q
def DR2 (r : R2) (x y d : PyData) : Prop := ∀ (B H : Hp) (v w : V) (Q : VK), Ex B H → Dd B v x → Dd B w y → (∀ u B' H', Wd B H B' H' → Dd B' u d → Q u H') → r v w H Q
def DR1 (r : V → Hp → VK → Prop) (x d : PyData) : Prop := ∀ (B H : Hp) (v : V) (Q : VK), Ex B H → Dd B v x → (∀ u B' H', Wd B H B' H' → Dd B' u d → Q u H') → r v H Q
def DC (r : List V → Hp → VK → Prop) (ds : List PyData) (d : PyData) : Prop := ∀ (B H : Hp) (vs : List V) (Q : VK), Ex B H → DdA B vs ds → (∀ u B' H', Wd B H B' H' → Dd B' u d → Q u H') → r vs H Q

section
variable {env : EnvT} {ta tb tc te : TE} {tt tu : TT} {ts : TA} {x y z d : PyData}
theorem de_var {i : Nat} (h : env[i]? = some (.dat d)) : DE (tVar i) env d := fun B σ H Q e o k => by
  obtain ⟨w, h1, v, h2, h3⟩ := o.at_ i _ h
  subst h2
  exact ⟨v, h1, k v B H (Wd.refl e) h3⟩
theorem de_int {i : Int} : DE (tC (.int i)) env (.int i) := fun B σ H Q e o k => k _ B H (Wd.refl e) (.int i)
theorem de_bl {b : Bool} : DE (tC (.bl b)) env (.bool b) := fun B σ H Q e o k => k _ B H (Wd.refl e) (.bl b)
theorem de_non : DE (tC .non) env .none := fun B σ H Q e o k => k _ B H (Wd.refl e) .non
theorem de_op {r : R2} (ha : DE ta env x) (hb : DE tb env y) (hr : DR2 r x y z) : DE (tOp r ta tb) env z := fun B σ H Q e o k =>
  ha B σ H _ e o fun v B1 H1 w1 d1 => hb B1 σ H1 _ w1.i (o.wd w1) fun u B2 H2 w2 d2 => hr B2 H2 v u Q w2.i (d1.up w2.b) d2 fun q B3 H3 w3 d3 => k q B3 H3 ((w1.trans w2).trans w3) d3
theorem de_un {r : V → Hp → VK → Prop} (ha : DE ta env x) (hr : DR1 r x z) : DE (tUn r ta) env z := fun B σ H Q e o k =>
  ha B σ H _ e o fun v B1 H1 w1 d1 => hr B1 H1 v Q w1.i d1 fun q B3 H3 w3 d3 => k q B3 H3 (w1.trans w3) d3
theorem de_if {b : Bool} (h : DT tt env b) (h1 : b = true → DE ta env d) (h2 : b = false → DE tb env d) : DE (tIf tt ta tb) env d := fun B σ H Q e o k =>
  h B σ H _ e o fun B1 H1 w1 => by
    cases b with
    | true => exact h1 rfl B1 σ H1 Q w1.i (o.wd w1) fun v B2 H2 w2 d2 => k v B2 H2 (w1.trans w2) d2
    | false => exact h2 rfl B1 σ H1 Q w1.i (o.wd w1) fun v B2 H2 w2 d2 => k v B2 H2 (w1.trans w2) d2
theorem de_is (h : DE te env x) (e : x = y) : DE te env y := by rw [← e]; exact h
theorem da_nil : DA tNil env [] := fun B σ H Q e o k => k [] B H (Wd.refl e) .nil
theorem da_cons {ds : List PyData} (h : DE ta env x) (hr : DA ts env ds) : DA (tCons ta ts) env (x :: ds) := fun B σ H Q e o k =>
  h B σ H _ e o fun v B1 H1 w1 d1 => hr B1 σ H1 _ w1.i (o.wd w1) fun vs B2 H2 w2 d2 => k (v :: vs) B2 H2 (w1.trans w2) (.cons (d1.up w2.b) d2)
theorem size_ok {n : Nat} (h : n ≤ 1000000) : n ≤ sizeLine := Nat.le_trans h (by decide)
theorem size_lt {n : Nat} (h : n < 1000000) : n < sizeLine := Nat.lt_of_lt_of_le h (by decide)
theorem de_tup {ds : List PyData} (h : DA ts env ds) (hl : ds.length ≤ 1000000) : DE (tTup ts) env (.tuple ds) := fun B σ H Q e o k =>
  h B σ H _ e o fun vs B1 H1 w1 d1 => ⟨by rw [d1.len]; exact size_ok hl, fun p hp => k _ _ _ (w1.trans (Wd.new w1.i hp)) (.tup upd_same (d1.up (Ex.new (w1.i.back hp))))⟩
theorem de_lst {ds : List PyData} (h : DA ts env ds) (hl : ds.length ≤ 1000000) : DE (tLst ts) env (.list ds) := fun B σ H Q e o k =>
  h B σ H _ e o fun vs B1 H1 w1 d1 => ⟨by rw [d1.len]; exact size_ok hl, fun p hp => k _ _ _ (w1.trans (Wd.new w1.i hp)) (.lst upd_same (d1.up (Ex.new (w1.i.back hp))))⟩
theorem de_cb {r : List V → Hp → VK → Prop} {ds : List PyData} (h : DA ts env ds) (hr : DC r ds d) : DE (tCB r ts) env d := fun B σ H Q e o k =>
  h B σ H _ e o fun vs B1 H1 w1 d1 => hr B1 H1 vs Q w1.i d1 fun u B2 H2 w2 d2 => k u B2 H2 (w1.trans w2) d2

/-! ### tests -/
theorem dt_val {b : Bool} (h : DE te env (.bool b)) : DT (tB te) env b := fun B σ H Q e o k =>
  h B σ H _ e o fun v B1 H1 w1 d1 => by
    cases d1
    exact ⟨b, rfl, k B1 H1 w1⟩
theorem dt_test {b : Bool} (h : DE te env (.bool b)) : DT (tTest te) env b := fun B σ H Q e o k =>
  h B σ H _ e o fun v B1 H1 w1 d1 => by
    cases d1
    exact ⟨b, rfl, k B1 H1 w1⟩
theorem dt_and {a b : Bool} (h1 : DT tt env a) (h2 : a = true → DT tu env b) : DT (tAnd tt tu) env (a && b) := fun B σ H Q e o k =>
  h1 B σ H _ e o fun B1 H1 w1 => by
    cases a with
    | true => exact h2 rfl B1 σ H1 Q w1.i (o.wd w1) fun B2 H2 w2 => k B2 H2 (w1.trans w2)
    | false => exact k B1 H1 w1
theorem dt_or {a b : Bool} (h1 : DT tt env a) (h2 : a = false → DT tu env b) : DT (tOr tt tu) env (a || b) := fun B σ H Q e o k =>
  h1 B σ H _ e o fun B1 H1 w1 => by
    cases a with
    | true => exact k B1 H1 w1
    | false => exact h2 rfl B1 σ H1 Q w1.i (o.wd w1) fun B2 H2 w2 => k B2 H2 (w1.trans w2)
theorem dt_not {a : Bool} (h : DT tt env a) : DT (tNot tt) env (!a) := fun B σ H Q e o k => h B σ H _ e o fun B1 H1 w1 => k B1 H1 w1
theorem dt_is {a b : Bool} (h : DT tt env a) (e : a = b) : DT tt env b := by rw [← e]; exact h
theorem dt_yes : DT tYes env true := fun B σ H Q e o k => k B H (Wd.refl e)
theorem de_andV {a b : Bool} (h1 : DE ta env (.bool a)) (h2 : a = true → DE tb env (.bool b)) : DE (tAndV ta tb) env (.bool (a && b)) := fun B σ H Q e o k =>
  h1 B σ H _ e o fun v B1 H1 w1 d1 => by
    cases d1
    refine ⟨a, rfl, ?_⟩
    cases a with
    | true => exact h2 rfl B1 σ H1 Q w1.i (o.wd w1) fun u B2 H2 w2 d2 => k u B2 H2 (w1.trans w2) d2
    | false => exact k _ B1 H1 w1 (.bl false)
theorem de_orV {a b : Bool} (h1 : DE ta env (.bool a)) (h2 : a = false → DE tb env (.bool b)) : DE (tOrV ta tb) env (.bool (a || b)) := fun B σ H Q e o k =>
  h1 B σ H _ e o fun v B1 H1 w1 d1 => by
    cases d1
    refine ⟨a, rfl, ?_⟩
    cases a with
    | true => exact k _ B1 H1 w1 (.bl true)
    | false => exact h2 rfl B1 σ H1 Q w1.i (o.wd w1) fun u B2 H2 w2 d2 => k u B2 H2 (w1.trans w2) d2
theorem de_notV {a : Bool} (h1 : DE ta env (.bool a)) : DE (tNotV ta) env (.bool (!a)) := fun B σ H Q e o k =>
  h1 B σ H _ e o fun v B1 H1 w1 d1 => by
    cases d1
    exact ⟨a, rfl, k _ B1 H1 w1 (.bl _)⟩

/-! ### operators -/
variable {K : PySem.W.Frag}
theorem dr_I0 {g : Int → Int → V} {i j : Int} (h : ∀ B, Dd B (g i j) d) : DR2 (rI0 g) (.int i) (.int j) d := fun B H v w Q e hx hy k => by
  cases hx
  cases hy
  exact ⟨i, j, rfl, rfl, k _ B H (Wd.refl e) (h B)⟩
theorem dr_I {C : Int → Int → Prop} {g : Int → Int → V} {i j : Int} (hc : C i j) (h : ∀ B, Dd B (g i j) d) : DR2 (rI C g) (.int i) (.int j) d := fun B H v w Q e hx hy k => by
  cases hx
  cases hy
  exact ⟨i, j, rfl, rfl, hc, k _ B H (Wd.refl e) (h B)⟩
theorem de_add {i j : Int} (ha : DE ta env (.int i)) (hb : DE tb env (.int j)) : DE (tOp (rI0 fun i j => .int (i + j)) ta tb) env (.int (i + j)) := de_op ha hb (dr_I0 fun _ => .int _)
theorem de_sub {i j : Int} (ha : DE ta env (.int i)) (hb : DE tb env (.int j)) : DE (tOp (rI0 fun i j => .int (i - j)) ta tb) env (.int (i - j)) := de_op ha hb (dr_I0 fun _ => .int _)
theorem de_mul {i j : Int} (ha : DE ta env (.int i)) (hb : DE tb env (.int j)) (hc : CMul i j) : DE (tOp (rI CMul fun i j => .int (i * j)) ta tb) env (.int (i * j)) := de_op ha hb (dr_I hc fun _ => .int _)
theorem de_div {i j : Int} (ha : DE ta env (.int i)) (hb : DE tb env (.int j)) (hc : CDivW i j) : DE (tOp (rI CDivW fun i j => .int (i / j)) ta tb) env (.int (i / j)) := de_op ha hb (dr_I hc fun _ => .int _)
theorem de_mod {i j : Int} (ha : DE ta env (.int i)) (hb : DE tb env (.int j)) (hc : 0 < j) : DE (tOp (rI (fun _ j => 0 < j) fun i j => .int (i % j)) ta tb) env (.int (i % j)) := de_op ha hb (dr_I hc fun _ => .int _)
theorem de_pow {i j : Int} (ha : DE ta env (.int i)) (hb : DE tb env (.int j)) (hc : CPow i j) : DE (tOp (rI CPow fun i j => .int (i ^ j.toNat)) ta tb) env (.int (i ^ j.toNat)) := de_op ha hb (dr_I hc fun _ => .int _)
theorem de_cmp {p : Int → Int → Bool} {i j : Int} (ha : DE ta env (.int i)) (hb : DE tb env (.int j)) : DE (tOp (rI0 fun i j => .bl (p i j)) ta tb) env (.bool (p i j)) := de_op ha hb (dr_I0 fun _ => .bl _)
theorem de_neg {i : Int} (ha : DE ta env (.int i)) : DE (tUn (rU fun i => .int (-i)) ta) env (.int (-i)) := de_un ha fun B H v Q e hx k => by
  cases hx
  exact ⟨i, rfl, k _ B H (Wd.refl e) (.int _)⟩
theorem de_eq (ha : DE ta env x) (hb : DE tb env y) (sx : SeqAt.shaped x = true) (sy : SeqAt.shaped y = true) : DE (tOp (rEqD K) ta tb) env (.bool (PyData.eqv x y)) :=
  de_op ha hb fun B H v w Q e hx hy k => ⟨x, y, Dd.dp e _ _ hx, Dd.dp e _ _ hy, sx, sy, k _ B H (Wd.refl e) (.bl _)⟩
theorem de_ne (ha : DE ta env x) (hb : DE tb env y) (sx : SeqAt.shaped x = true) (sy : SeqAt.shaped y = true) : DE (tOp (rNeD K) ta tb) env (.bool (!PyData.eqv x y)) :=
  de_op ha hb fun B H v w Q e hx hy k => ⟨x, y, Dd.dp e _ _ hx, Dd.dp e _ _ hy, sx, sy, k _ B H (Wd.refl e) (.bl _)⟩
theorem de_in {ds : List PyData} (ha : DE ta env x) (hb : DE tb env (.list ds)) (sx : SeqAt.shaped x = true) (sy : SeqAt.shaped (.list ds) = true) : DE (tOp (rInD K) ta tb) env (.bool (ds.any fun z => PyData.eqv z x)) :=
  de_op ha hb fun B H v w Q e hx hy k => ⟨x, ds, Dd.dp e _ _ hx, Dd.dp e _ _ hy, sx, sy, k _ B H (Wd.refl e) (.bl _)⟩
theorem de_notIn {ds : List PyData} (ha : DE ta env x) (hb : DE tb env (.list ds)) (sx : SeqAt.shaped x = true) (sy : SeqAt.shaped (.list ds) = true) : DE (tOp (rNotInD K) ta tb) env (.bool (!ds.any fun z => PyData.eqv z x)) :=
  de_op ha hb fun B H v w Q e hx hy k => ⟨x, ds, Dd.dp e _ _ hx, Dd.dp e _ _ hy, sx, sy, k _ B H (Wd.refl e) (.bl _)⟩
theorem atI_dd {B : Hp} {xs : List V} {ds : List PyData} {i : Int} (h : DdA B xs ds) (e : atI ds i = some d) : ∃ v, atI xs i = some v ∧ Dd B v d := by
  unfold atI at e ⊢
  rw [h.len]
  cases q : ixN ds.length i with
  | none => rw [q] at e; cases e
  | some j =>
    rw [q] at e
    exact h.get e
theorem de_ixL {ds : List PyData} {i : Int} (ha : DE ta env (.list ds)) (hb : DE tb env (.int i)) (h : atI ds i = some d) : DE (tOp (rIxL K) ta tb) env d :=
  de_op ha hb fun B H v w Q e hx hy k => by
    cases hy
    cases hx with
    | lst h1 h2 =>
      obtain ⟨u, e1, e2⟩ := atI_dd h2 h
      exact ⟨_, _, i, u, rfl, rfl, SqL.of (e _ _ h1), e1, k u B H (Wd.refl e) e2⟩
theorem de_ixT {ds : List PyData} {i : Int} (ha : DE ta env (.tuple ds)) (hb : DE tb env (.int i)) (h : atI ds i = some d) : DE (tOp (rIxT K) ta tb) env d :=
  de_op ha hb fun B H v w Q e hx hy k => by
    cases hy
    cases hx with
    | tup h1 h2 =>
      obtain ⟨u, e1, e2⟩ := atI_dd h2 h
      exact ⟨_, _, i, u, rfl, rfl, SqT.of (e _ _ h1), e1, k u B H (Wd.refl e) e2⟩
/-- a list or a tuple -/
inductive Sq : PyData → List PyData → Prop
  | l (ds) : Sq (.list ds) ds
  | t (ds) : Sq (.tuple ds) ds
theorem de_ix {ds : List PyData} {i : Int} (s : Sq x ds) (ha : DE ta env x) (hb : DE tb env (.int i)) (h : atI ds i = some d) : DE (tOp (rIx K) ta tb) env d :=
  de_op ha hb fun B H v w Q e hx hy k => by
    cases hy
    cases s with
    | l =>
      cases hx with
      | lst h1 h2 =>
        obtain ⟨u, e1, e2⟩ := atI_dd h2 h
        exact .inl ⟨_, _, i, u, rfl, rfl, SqL.of (e _ _ h1), e1, k u B H (Wd.refl e) e2⟩
    | t =>
      cases hx with
      | tup h1 h2 =>
        obtain ⟨u, e1, e2⟩ := atI_dd h2 h
        exact .inr (.inl ⟨_, _, i, u, rfl, rfl, SqT.of (e _ _ h1), e1, k u B H (Wd.refl e) e2⟩)
theorem do_none : DO tNoPart env none := fun B σ H Q e o k => k B H (Wd.refl e)
theorem do_some {i : Int} (h : DE te env (.int i)) : DO (tPart te) env (some i) := fun B σ H Q e o k =>
  h B σ H _ e o fun v B1 H1 w1 d1 => by
    cases d1
    exact ⟨i, rfl, k B1 H1 w1⟩
def cutD (ds : List PyData) (lo hi : Option Int) : List PyData := (ds.drop (HT.sIx ds.length 0 lo)).take (HT.sIx ds.length ds.length hi - HT.sIx ds.length 0 lo)
theorem DdA.cut {B : Hp} {xs : List V} {ds : List PyData} (h : DdA B xs ds) (lo hi : Option Int) : DdA B (cutV xs lo hi) (cutD ds lo hi) := by
  unfold cutV cutD
  rw [h.len]
  exact (h.drop _).take _
theorem cutD_from (ds : List PyData) (k : Nat) : cutD ds (some (k : Int)) none = ds.drop k := by
  unfold cutD
  rw [HT.sIx_nat, HT.sIx_none]
  rcases Nat.le_total k ds.length with h | h
  · rw [Nat.min_eq_left h]
    exact List.take_of_length_le (by rw [List.length_drop]; omega)
  · rw [Nat.min_eq_right h, List.drop_of_length_le (Nat.le_refl _), List.drop_of_length_le h]
    simp
theorem cutD_to (ds : List PyData) (k : Nat) : cutD ds none (some (k : Int)) = ds.take k := by
  unfold cutD
  rw [HT.sIx_nat, HT.sIx_none]
  simp only [List.drop_zero, Nat.sub_zero]
  rcases Nat.le_total k ds.length with h | h
  · rw [Nat.min_eq_left h]
  · rw [Nat.min_eq_right h, List.take_of_length_le (Nat.le_refl _), List.take_of_length_le h]
theorem de_slL {ds : List PyData} {lo hi : Option Int} {tl th : TO} (ha : DE ta env (.list ds)) (hl : DO tl env lo) (hh : DO th env hi) : DE (tSl (rSlL K) ta tl th) env (.list (cutD ds lo hi)) := fun B σ H Q e o k =>
  ha B σ H _ e o fun v B1 H1 w1 d1 => hl B1 σ H1 _ w1.i (o.wd w1) fun B2 H2 w2 => hh B2 σ H2 _ w2.i (o.wd (w1.trans w2)) fun B3 H3 w3 => by
    cases d1 with
    | lst h1 h2 => exact ⟨_, _, rfl, SqL.of (w3.i _ _ (w3.b _ _ (w2.b _ _ h1))), fun p hp => k _ _ _ (((w1.trans w2).trans w3).trans (Wd.new w3.i hp)) (.lst upd_same (((h2.up (w2.b.trans w3.b)).cut lo hi).up (Ex.new (w3.i.back hp))))⟩
theorem cut_whole {ds : List PyData} {lo hi : Option Int} (h : HT.sIx ds.length 0 lo = 0 ∧ HT.sIx ds.length ds.length hi = ds.length) : cutD ds lo hi = ds := by
  unfold cutD
  rw [h.1, h.2]
  simp
theorem de_slT {ds : List PyData} {lo hi : Option Int} {tl th : TO} (ha : DE ta env (.tuple ds)) (hl : DO tl env lo) (hh : DO th env hi) : DE (tSl (rSlA K) ta tl th) env (.tuple (cutD ds lo hi)) := fun B σ H Q e o k =>
  ha B σ H _ e o fun v B1 H1 w1 d1 => hl B1 σ H1 _ w1.i (o.wd w1) fun B2 H2 w2 => hh B2 σ H2 _ w2.i (o.wd (w1.trans w2)) fun B3 H3 w3 => by
    cases d1 with
    | tup h1 h2 =>
      have w := (w1.trans w2).trans w3
      have e3 := w2.b.trans w3.b
      refine ⟨_, _, rfl, SqT.of (w3.i _ _ (e3 _ _ h1)), fun hw => ?_, fun _ p hp => k _ _ _ (w.trans (Wd.new w3.i hp)) (.tup upd_same (((h2.up e3).cut lo hi).up (Ex.new (w3.i.back hp))))⟩
      rw [h2.len] at hw
      rw [cut_whole hw] at k
      exact k _ B3 H3 w (.tup (e3 _ _ h1) (h2.up e3))
theorem de_catL {xs ys : List PyData} (ha : DE ta env (.list xs)) (hb : DE tb env (.list ys)) (hl : xs.length + ys.length ≤ 1000000) : DE (tOp rCat ta tb) env (.list (xs ++ ys)) :=
  de_op ha hb fun B H v w Q e hx hy k => by
    cases hx with
    | lst h1 h2 =>
      cases hy with
      | lst h3 h4 => exact ⟨_, _, _, _, rfl, rfl, e _ _ h1, e _ _ h3, by rw [h2.len, h4.len]; exact size_ok hl, fun p hp => k _ _ _ (Wd.new e hp) (.lst upd_same ((h2.app h4).up (Ex.new (e.back hp))))⟩
theorem de_catT {xs ys : List PyData} (ha : DE ta env (.tuple xs)) (hb : DE tb env (.tuple ys)) (hl : xs.length + ys.length ≤ 1000000) : DE (tOp (rCatA K) ta tb) env (.tuple (xs ++ ys)) :=
  de_op ha hb fun B H v w Q e hx hy k => by
    cases hx with
    | tup h1 h2 =>
      cases hy with
      | tup h3 h4 =>
        refine ⟨_, _, _, _, rfl, rfl, SqT.of (e _ _ h1), SqT.of (e _ _ h3), by rw [h2.len, h4.len]; exact size_ok hl, fun z => ?_, fun _ z => ?_, fun _ _ p hp => k _ _ _ (Wd.new e hp) (.tup upd_same ((h2.app h4).up (Ex.new (e.back hp))))⟩
        · have l := h2.len
          rw [z] at l
          have e0 : xs = [] := List.eq_nil_of_length_eq_zero l.symm
          subst e0
          exact k _ B H (Wd.refl e) (.tup h3 h4)
        · have l := h4.len
          rw [z] at l
          have e0 : ys = [] := List.eq_nil_of_length_eq_zero l.symm
          subst e0
          rw [List.append_nil] at k
          exact k _ B H (Wd.refl e) (.tup h1 h2)

/-! ### built-in calls -/
def rLenD (K : PySem.W.Frag) : List V → Hp → VK → Prop := fun xs H Q => ∃ p ys, xs = [.ref p] ∧ (SqL K H p ys ∨ SqT K H p ys) ∧ Q (.int ys.length) H
def rLstD (K : PySem.W.Frag) : List V → Hp → VK → Prop := fun xs H Q => ∃ p ys, xs = [.ref p] ∧ (SqL K H p ys ∨ SqT K H p ys) ∧ ∀ l, H l = none → Q (.ref l) (upd H l (.lst ys))
def rTupD (K : PySem.W.Frag) : List V → Hp → VK → Prop := fun xs H Q => ∃ p ys, xs = [.ref p] ∧ ((SqL K H p ys ∧ ∀ l, H l = none → Q (.ref l) (upd H l (.tup ys))) ∨ (SqT K H p ys ∧ Q (.ref p) H))
theorem dc_len {ds : List PyData} (s : Sq x ds) : DC (rLenD K) [x] (.int ds.length) := fun B H vs Q e h k => by
  obtain ⟨v, rfl, hv⟩ := h.one
  cases s with
  | l =>
    cases hv with
    | lst h1 h2 => exact ⟨_, _, rfl, .inl (SqL.of (e _ _ h1)), by rw [h2.len]; exact k _ B H (Wd.refl e) (.int _)⟩
  | t =>
    cases hv with
    | tup h1 h2 => exact ⟨_, _, rfl, .inr (SqT.of (e _ _ h1)), by rw [h2.len]; exact k _ B H (Wd.refl e) (.int _)⟩
theorem dc_list {ds : List PyData} (s : Sq x ds) : DC (rLstD K) [x] (.list ds) := fun B H vs Q e h k => by
  obtain ⟨v, rfl, hv⟩ := h.one
  cases s with
  | l =>
    cases hv with
    | lst h1 h2 => exact ⟨_, _, rfl, .inl (SqL.of (e _ _ h1)), fun p hp => k _ _ _ (Wd.new e hp) (.lst upd_same (h2.up (Ex.new (e.back hp))))⟩
  | t =>
    cases hv with
    | tup h1 h2 => exact ⟨_, _, rfl, .inr (SqT.of (e _ _ h1)), fun p hp => k _ _ _ (Wd.new e hp) (.lst upd_same (h2.up (Ex.new (e.back hp))))⟩
theorem dc_tuple {ds : List PyData} (s : Sq x ds) : DC (rTupD K) [x] (.tuple ds) := fun B H vs Q e h k => by
  obtain ⟨v, rfl, hv⟩ := h.one
  cases s with
  | l =>
    cases hv with
    | lst h1 h2 => exact ⟨_, _, rfl, .inl ⟨SqL.of (e _ _ h1), fun p hp => k _ _ _ (Wd.new e hp) (.tup upd_same (h2.up (Ex.new (e.back hp))))⟩⟩
  | t =>
    cases hv with
    | tup h1 h2 => exact ⟨_, _, rfl, .inr ⟨SqT.of (e _ _ h1), k _ B H (Wd.refl e) (.tup h1 h2)⟩⟩
theorem dc_sum {ns : List Int} : DC (rSum K) [.list (ns.map .int)] (.int ns.sum) := fun B H vs Q e h k => by
  obtain ⟨v, rfl, hv⟩ := h.one
  cases hv with
  | lst h1 h2 =>
    have ex := h2.ints
    subst ex
    exact ⟨_, ns, rfl, SqL.of (e _ _ h1), k _ B H (Wd.refl e) (.int _)⟩
theorem dc_max {ns : List Int} {m : Int} (hm : m ∈ ns) (hle : ∀ y ∈ ns, y ≤ m) : DC (rMax K) [.list (ns.map .int)] (.int m) := fun B H vs Q e h k => by
  obtain ⟨v, rfl, hv⟩ := h.one
  cases hv with
  | lst h1 h2 =>
    have ex := h2.ints
    subst ex
    refine ⟨_, ns, rfl, SqL.of (e _ _ h1), List.length_pos_of_mem hm, fun m' h1 h2 => ?_⟩
    have e1 : m' = m := Int.le_antisymm (hle m' h1) (h2 m hm)
    rw [e1]
    exact k _ B H (Wd.refl e) (.int _)
theorem dc_min {ns : List Int} {m : Int} (hm : m ∈ ns) (hle : ∀ y ∈ ns, m ≤ y) : DC (rMin K) [.list (ns.map .int)] (.int m) := fun B H vs Q e h k => by
  obtain ⟨v, rfl, hv⟩ := h.one
  cases hv with
  | lst h1 h2 =>
    have ex := h2.ints
    subst ex
    refine ⟨_, ns, rfl, SqL.of (e _ _ h1), List.length_pos_of_mem hm, fun m' h1 h2 => ?_⟩
    have e1 : m' = m := Int.le_antisymm (h2 m hm) (hle m' h1)
    rw [e1]
    exact k _ B H (Wd.refl e) (.int _)
theorem dc_abs {i : Int} : DC (fun xs H Q => ∃ i, xs = [.int i] ∧ Q (.int (if i < 0 then -i else i)) H) [.int i] (.int (i.natAbs : Int)) := fun B H vs Q e h k => by
  obtain ⟨v, rfl, hv⟩ := h.one
  cases hv
  refine ⟨i, rfl, ?_⟩
  have ez : (if i < 0 then -i else i) = (i.natAbs : Int) := by split <;> omega
  rw [ez]
  exact k _ B H (Wd.refl e) (.int _)
theorem dc_int {i : Int} : DC (fun xs H Q => (∃ i, xs = [.int i] ∧ Q (.int i) H) ∨ ∃ k, xs = [.bl k] ∧ Q (.int (if k then 1 else 0)) H) [.int i] (.int i) := fun B H vs Q e h k => by
  obtain ⟨v, rfl, hv⟩ := h.one
  cases hv
  exact .inl ⟨i, rfl, k _ B H (Wd.refl e) (.int _)⟩
/-- what type() of data is -/
def dty : PyData → String
  | .none => "NoneType"
  | .bool _ => "bool"
  | .int _ => "int"
  | .str _ => "str"
  | .list _ => "list"
  | .tuple _ => "tuple"
  | .dict _ => "dict"
end
end LW

/-! What is walked, comprehensions, statements, loops, promises. -/
namespace LW
open PySem PySem.Spec PyProof.Rows L2
open Evl (Ex)

section
variable {env : EnvT} {ta tb tc te : TE} {tt tu : TT} {ts : TA} {x y z d : PyData} {K : PySem.W.Frag}
theorem de_isi {T : String} {b : Bool} (h : DE te env x) (hb : kitB (dty x) T = some b) : DE (tCB (rIsi K) (tCons te (tCons (tC (.ty T)) tNil))) env (.bool b) := fun B σ H Q e o k =>
  h B σ H _ e o fun v B1 H1 w1 d1 => by
    refine ⟨v, .ty T, .type (dty x), .type T, b, rfl, .ty T, ?_, kit_ty hb, k _ B1 H1 w1 (.bl b)⟩
    cases d1 with
    | non => exact .base .non
    | bl b => exact .base (.bl b)
    | int i => exact .base (.int i)
    | lst h1 _ => exact .base (.lst (w1.i _ _ h1))
    | tup h1 _ => exact .base (.tup (w1.i _ _ h1))
/-- isinstance(x, (tuple, list)) -/
theorem de_isi2 {T U : String} {b c : Bool} (h : DE te env x) (hb : kitB (dty x) T = some b) (hc : kitB (dty x) U = some c) : DE (tCB (rIsiT K) (tCons te (tCons (tTup (tCons (tC (.ty T)) (tCons (tC (.ty U)) tNil))) tNil))) env (.bool (b || c)) := fun B σ H Q e o k =>
  h B σ H _ e o fun v B1 H1 w1 d1 => by
    refine ⟨by show 2 ≤ sizeLine; decide, fun p hp => ?_⟩
    have w2 : Wd B1 H1 B1 (upd H1 p (.tup [.ty T, .ty U])) := Wd.side w1.i hp
    refine ⟨v, p, [.ty T, .ty U], .type (dty x), [.type T, .type U], (b || c), rfl, upd_same, .cons (.ty T) (.cons (.ty U) .nil), ?_, ?_, k _ _ _ (w1.trans w2) (.bl _)⟩
    · cases d1 with
      | non => exact .base .non
      | bl b => exact .base (.bl b)
      | int i => exact .base (.int i)
      | lst h1 _ => exact .base (.lst (w2.i _ _ h1))
      | tup h1 _ => exact .base (.tup (w2.i _ _ h1))
    · refine kitAny_cons (kit_ty hb) (fun e => ?_) (fun e => by rw [e]; rfl)
      subst e
      refine kitAny_cons (kit_ty hc) (fun e => ?_) (fun e => by rw [e]; rfl)
      subst e
      exact kitAny_nil
end

/-! ### what is walked -/
def Yields (J : It) (B : Hp) (items : List PyData) : Prop := ∀ (B1 H1 : Hp) (i : Nat), Ex B B1 → Ex B1 H1 →
  (∀ d, items[i]? = some d → J.go i H1 ∧ ∀ x H2, J.yld i H1 x H2 → ∃ B2, Wd B1 H1 B2 H2 ∧ Dd B2 x d) ∧ (items.length ≤ i → J.stop i H1)
def DI (wi : TI) (env : EnvT) (items : List PyData) : Prop := ∀ (B : Hp) (σ : L2.St) (H : Hp) (R : It → Hp → Prop), Ex B H → EnvOk B H env σ → (∀ J B' H', Wd B H B' H' → Yields J B' items → R J H') → wi σ H R
section
variable {env : EnvT} {tl : TE} {ta : TA} {K : PySem.W.Frag}
theorem di_list {ds : List PyData} (h : DE tl env (.list ds)) : DI (iList K tl) env ds := fun B σ H R e o k =>
  h B σ H _ e o fun v B1 H1 w1 d1 => by
    cases d1 with
    | @lst a xs _ h1 h2 =>
      refine ⟨a, rfl, ⟨xs, SqL.of (w1.i _ _ h1)⟩, k _ B1 H1 w1 fun B2 H2 i e1 e2 => ⟨fun d hd => ?_, fun hi => ⟨xs, SqL.of (e2 _ _ (e1 _ _ h1)), by rw [h2.len]; exact hi⟩⟩⟩
      obtain ⟨u, q1, q2⟩ := h2.get hd
      refine ⟨⟨xs, u, SqL.of (e2 _ _ (e1 _ _ h1)), q1⟩, fun x H3 ⟨e3, h3⟩ => ?_⟩
      subst e3
      have q3 := h3 xs (SqL.of (e2 _ _ (e1 _ _ h1)))
      rw [q1] at q3
      cases q3
      exact ⟨B2, Wd.refl e2, q2.up e1⟩
theorem di_tup {ds : List PyData} (h : DE tl env (.tuple ds)) : DI (iTup K tl) env ds := fun B σ H R e o k =>
  h B σ H _ e o fun v B1 H1 w1 d1 => by
    cases d1 with
    | @tup a xs _ h1 h2 =>
      refine ⟨a, rfl, ⟨xs, SqT.of (w1.i _ _ h1)⟩, k _ B1 H1 w1 fun B2 H2 i e1 e2 => ⟨fun d hd => ?_, fun hi => ⟨xs, SqT.of (e2 _ _ (e1 _ _ h1)), by rw [h2.len]; exact hi⟩⟩⟩
      obtain ⟨u, q1, q2⟩ := h2.get hd
      refine ⟨⟨xs, u, SqT.of (e2 _ _ (e1 _ _ h1)), q1⟩, fun x H3 ⟨e3, h3⟩ => ?_⟩
      subst e3
      have q3 := h3 xs (SqT.of (e2 _ _ (e1 _ _ h1)))
      rw [q1] at q3
      cases q3
      exact ⟨B2, Wd.refl e2, q2.up e1⟩
theorem rng_yields {B : Hp} {lo : Int} {n : Nat} : Yields (Itr lo n) B ((List.range n).map fun (k : Nat) => PyData.int (lo + (k : Int))) := fun B1 H1 i e1 e2 => by
  refine ⟨fun d hd => ?_, fun hi => by
    show n ≤ i
    simpa using hi⟩
  rw [List.getElem?_map] at hd
  have hi : i < n := by
    rcases Nat.lt_or_ge i n with c | c
    · exact c
    · rw [List.getElem?_eq_none (by simpa using c)] at hd
      cases hd
  rw [List.getElem?_range hi] at hd
  have ed : PyData.int (lo + (i : Int)) = d := Option.some.inj hd
  subst ed
  refine ⟨hi, fun x H3 ⟨e3, h3⟩ => ?_⟩
  subst e3 h3
  exact ⟨B1, Wd.refl e2, .int _⟩
theorem di_rng1 {n : Int} (h : DA ta env [.int n]) (hn : n ≤ 1000000 ∧ -1000000 ≤ n) : DI (iRng1 ta) env ((List.range n.toNat).map fun (k : Nat) => PyData.int (k : Int)) := fun B σ H R e o k =>
  h B σ H _ e o fun vs B1 H1 w1 d1 => by
    obtain ⟨v, rfl, hv⟩ := d1.one
    cases hv
    have y := rng_yields (B := B1) (lo := 0) (n := n.toNat)
    have e0 : ((List.range n.toNat).map fun (k : Nat) => PyData.int (0 + (k : Int))) = ((List.range n.toNat).map fun (k : Nat) => PyData.int (k : Int)) := by
      refine List.map_congr_left fun k _ => ?_
      rw [Int.zero_add]
    rw [e0] at y
    exact ⟨n, rfl, by omega, by omega, k _ B1 H1 w1 y⟩
theorem di_rng2 {lo n : Int} (h : DA ta env [.int lo, .int n]) (hl : lo ≤ 1000000 ∧ -1000000 ≤ lo) (hn : n ≤ 1000000 ∧ -1000000 ≤ n) : DI (iRng2 ta) env ((List.range (n - lo).toNat).map fun (k : Nat) => PyData.int (lo + (k : Int))) := fun B σ H R e o k =>
  h B σ H _ e o fun vs B1 H1 w1 d1 => by
    obtain ⟨v, w, rfl, hv, hw⟩ := d1.two
    cases hv
    cases hw
    exact ⟨lo, n, rfl, ⟨by omega, by omega, by omega, by omega⟩, k _ B1 H1 w1 rng_yields⟩
theorem zip_get {ds es : List PyData} {i : Nat} {d : PyData} (h : (List.zipWith (fun a b => PyData.tuple [a, b]) ds es)[i]? = some d) : ∃ a b, ds[i]? = some a ∧ es[i]? = some b ∧ d = .tuple [a, b] := by
  rw [List.getElem?_zipWith] at h
  cases h1 : ds[i]? with
  | none => rw [h1] at h; cases h
  | some a =>
    cases h2 : es[i]? with
    | none => rw [h1, h2] at h; cases h
    | some b =>
      rw [h1, h2] at h
      exact ⟨a, b, rfl, rfl, (Option.some.inj h).symm⟩
theorem di_zip {ds es : List PyData} (h : DA ta env [.tuple ds, .tuple es]) : DI (RZ.iZipA K ta) env (List.zipWith (fun a b => PyData.tuple [a, b]) ds es) := fun B σ H R e o k =>
  h B σ H _ e o fun vs B1 H1 w1 d1 => by
    obtain ⟨v, w, rfl, hv, hw⟩ := d1.two
    cases hv with
    | @tup a xs _ h1 h2 =>
      cases hw with
      | @tup b ys _ h3 h4 =>
        refine ⟨a, b, xs, ys, rfl, .inr ⟨SqT.of (w1.i _ _ h1), SqT.of (w1.i _ _ h3), k _ B1 H1 w1 fun B2 H2 i e1 e2 => ⟨fun d hd => ?_, fun hi => ?_⟩⟩⟩
        · obtain ⟨p, q, g1, g2, rfl⟩ := zip_get hd
          obtain ⟨u, q1, q2⟩ := h2.get g1
          obtain ⟨u', q3, q4⟩ := h4.get g2
          have sa := SqT.of (K := K) (e2 _ _ (e1 _ _ h1))
          have sb := SqT.of (K := K) (e2 _ _ (e1 _ _ h3))
          refine ⟨⟨xs, ys, u, u', sa, sb, q1, q3⟩, fun x H3 ⟨T, x1, y1, ev, hT, eH, f1, f2⟩ => ?_⟩
          subst ev eH
          have z1 := f1 xs sa
          rw [q1] at z1
          cases z1
          have z2 := f2 ys sb
          rw [q3] at z2
          cases z2
          have en : Ex B2 (upd B2 T (.tup [u, u'])) := Ex.new (e2.back hT)
          exact ⟨_, Wd.new e2 hT, .tup upd_same (.cons (q2.up (e1.trans en)) (.cons (q4.up (e1.trans en)) .nil))⟩
        · refine ⟨xs, ys, SqT.of (e2 _ _ (e1 _ _ h1)), SqT.of (e2 _ _ (e1 _ _ h3)), ?_⟩
          rw [List.length_zipWith] at hi
          rw [h2.len, h4.len]
          omega
end

/-! ### targets -/
theorem wipe_get : ∀ (vs : List Nat) (σ : L2.St) (i : Nat), (L2.wipe σ vs)[i]? = if i ∈ vs then (σ[i]?).map (fun _ => none) else σ[i]?
  | [], σ, i => by simp [L2.wipe]
  | v :: vs, σ, i => by
    show ((L2.wipe σ vs).set v none)[i]? = _
    have ih := wipe_get vs σ i
    rw [List.getElem?_set, ih]
    by_cases h : v = i
    · subst h
      simp only [if_true, List.mem_cons, true_or]
      rw [L2.wipe_length]
      by_cases hl : v < σ.length
      · rw [if_pos hl, List.getElem?_eq_getElem hl]
        rfl
      · rw [if_neg hl, List.getElem?_eq_none (by omega)]
        rfl
    · have h' : ¬ i = v := fun e => h e.symm
      simp only [if_neg h, List.mem_cons, h', false_or]
theorem wipe_set {vs : List Nat} {σ : L2.St} {j : Nat} {x : Option V} (h : j ∈ vs) : L2.wipe (σ.set j x) vs = L2.wipe σ vs := by
  apply List.ext_getElem?
  intro i
  rw [wipe_get, wipe_get, List.getElem?_set]
  by_cases hi : i ∈ vs
  · rw [if_pos hi, if_pos hi]
    by_cases e : j = i
    · subst e
      simp only [if_true]
      by_cases hl : j < σ.length
      · rw [if_pos hl, List.getElem?_eq_getElem hl]
        rfl
      · rw [if_neg hl, List.getElem?_eq_none (by omega)]
    · rw [if_neg e]
  · rw [if_neg hi, if_neg hi, if_neg (fun e : j = i => hi (e ▸ h))]
theorem wipe_wipe (σ : L2.St) (vs : List Nat) : L2.wipe (L2.wipe σ vs) vs = L2.wipe σ vs := by
  apply List.ext_getElem?
  intro i
  rw [wipe_get, wipe_get]
  by_cases hi : i ∈ vs
  · simp only [if_pos hi, Option.map_map]
    rfl
  · rw [if_neg hi, if_neg hi]
def DG (g : TG) (env : EnvT) (d : PyData) (env' : EnvT) (js : List Nat) : Prop := ∀ (B : Hp) (σ : L2.St) (H : Hp) (v : V) (Q : L2.St → Hp → Prop), Ex B H → EnvOk B H env σ → Dd B v d →
  (∀ σ', EnvOk B H env' σ' → (∀ vs : List Nat, (∀ j ∈ js, j ∈ vs) → L2.wipe σ' vs = L2.wipe σ vs) → Q σ' H) → g v σ H Q
theorem dg_name {env : EnvT} {d : PyData} {j : Nat} : DG (gName j) env d (env.set j (.dat d)) [j] := fun B σ H v Q e o h k =>
  k _ (o.setD h) fun vs hv => wipe_set (hv j (by simp))
theorem dg_pair {env : EnvT} {x y : PyData} {j k : Nat} {K : PySem.W.Frag} : DG (gTup K 2 (gCons (gName j) (gCons (gName k) gNil))) env (.tuple [x, y]) ((env.set j (.dat x)).set k (.dat y)) [j, k] := fun B σ H v Q e o h c => by
  cases h with
  | tup h1 h2 =>
    obtain ⟨u, w, rfl, hu, hw⟩ := h2.two
    refine ⟨_, _, rfl, SqT.of (e _ _ h1), rfl, u, [w], rfl, w, [], rfl, rfl, c _ ((o.setD hu).setD hw) fun vs hv => ?_⟩
    rw [wipe_set (hv k (by simp)), wipe_set (hv j (by simp))]

/-! ### comprehensions -/
section
variable {α : Type} {env : EnvT} {xs : List α} {enc : α → PyData} {p : α → Bool} {f : α → PyData} {envf : α → EnvT} {wi : TI} {g : TG} {tt : TT} {te : TE} {vs js : List Nat}
theorem de_lc (hi : DI wi env (xs.map enc)) (hl : xs.length ≤ 1000000) (hj : ∀ j ∈ js, j ∈ vs) (hg : ∀ x ∈ xs, DG g (wipeE env vs) (enc x) (envf x) js) (ht : ∀ x ∈ xs, DT tt (envf x) (p x)) (he : ∀ x ∈ xs, p x = true → DE te (envf x) (f x)) :
    DE (tLc wi g tt te vs) env (.list ((xs.filter p).map f)) := fun B σ H Q e o k =>
  hi B σ H _ e o fun J B1 H1 w1 yl D hD => by
    have o1 := o.wd w1
    -- what is true at each turn
    refine ⟨fun i m H' => m = xs.length - i ∧ i ≤ xs.length ∧ ∃ (Bi : Hp) (acc : List V), Ex B1 Bi ∧ Ex Bi H' ∧ Ex H1 H' ∧ (∀ a u, Bi a = some u → B1 a = none → H1 a = none) ∧ Bi D = none ∧ H' D = some (.lst acc) ∧ DdA Bi acc (((xs.take i).filter p).map f),
      ⟨xs.length, rfl, Nat.zero_le _, B1, [], Ex.refl _, w1.i.trans (Ex.new hD), Ex.new hD, fun a u q n => by (rw [q] at n; cases n), w1.i.back hD, upd_same, .nil⟩, ?_⟩
    rintro i m H' ⟨rfl, hi', Bi, acc, e1, e2, e3, fr, nD, hD', da⟩
    obtain ⟨y1, y2⟩ := yl Bi H' i e1 e2
    rcases Nat.lt_or_ge i xs.length with c | c
    · have hx : xs[i]? = some xs[i] := List.getElem?_eq_getElem c
      have mx : xs[i] ∈ xs := List.getElem_mem c
      generalize xs[i] = x at hx mx
      obtain ⟨g1, g2⟩ := y1 (enc x) (by rw [List.getElem?_map, hx]; rfl)
      refine .inr ⟨g1, fun H'' => i + 1 ≤ xs.length ∧ ∃ (Bi : Hp) (acc : List V), Ex B1 Bi ∧ Ex Bi H'' ∧ Ex H1 H'' ∧ (∀ a u, Bi a = some u → B1 a = none → H1 a = none) ∧ Bi D = none ∧ H'' D = some (.lst acc) ∧ DdA Bi acc (((xs.take (i + 1)).filter p).map f), fun H'' q => ⟨xs.length - (i + 1), by omega, rfl, q⟩, fun u H2 hy => ?_⟩
      obtain ⟨B2, w2, du⟩ := g2 u H2 hy
      -- data and heap stay right over a step
      have keep : ∀ {Ba Ha Bb Hb : Hp}, Wd Ba Ha Bb Hb → Ex B1 Ba → Ex H1 Ha → (∀ a u, Ba a = some u → B1 a = none → H1 a = none) → Ba D = none → Ha D = some (.lst acc) → (∀ a u, Bb a = some u → B1 a = none → H1 a = none) ∧ Bb D = none ∧ Hb D = some (.lst acc) := fun {Ba Ha Bb Hb} w a1 a2 a3 a4 a5 => by
        refine ⟨fun a u q n => ?_, ?_, w.h _ _ a5⟩
        · cases z : Ba a with
          | some t => exact a3 a t z n
          | none => exact a2.back (w.fr a u q z)
        · cases z : Bb D with
          | none => rfl
          | some t =>
            have z2 := w.fr D t z a4
            rw [a5] at z2
            cases z2
      obtain ⟨fr2, nD2, hD2⟩ := keep w2 e1 e3 fr nD hD'
      have oi : EnvOk B2 H2 env σ := o1.go (e1.trans w2.b) (fun a _ t q => w2.h _ _ (e3 _ _ q)) fun a ha => by
        obtain ⟨z1, t, z2⟩ := o1.own_at ha
        cases z : B2 a with
        | none => rfl
        | some t' =>
          have z3 := fr2 a t' z z1
          rw [z2] at z3
          cases z3
      refine hg x mx B2 (L2.wipe σ vs) H2 u _ w2.i (oi.wipe vs) du fun σ2 o2 hw => ⟨by rw [hw vs hj, wipe_wipe], ht x mx B2 σ2 H2 _ w2.i o2 fun B3 H3 w3 => ?_⟩
      obtain ⟨fr3, nD3, hD3⟩ := keep w3 (e1.trans w2.b) (e3.trans w2.h) fr2 nD2 hD2
      have ee := (e1.trans w2.b).trans w3.b
      cases hp : p x with
      | false =>
        have et : ((xs.take (i + 1)).filter p).map f = ((xs.take i).filter p).map f := by
          rw [take_next hx, List.filter_append, List.filter_cons, hp]
          simp
        exact ⟨by omega, B3, acc, ee, w3.i, (e3.trans w2.h).trans w3.h, fr3, nD3, hD3, by rw [et]; exact da.up (w2.b.trans w3.b)⟩
      | true =>
        refine he x mx hp B3 σ2 H3 _ w3.i (o2.wd w3) fun v B4 H4 w4 d4 => ?_
        obtain ⟨fr4, nD4, hD4⟩ := keep w4 ee ((e3.trans w2.h).trans w3.h) fr3 nD3 hD3
        have et : ((xs.take (i + 1)).filter p).map f = ((xs.take i).filter p).map f ++ [f x] := by
          rw [take_next hx, List.filter_append, List.filter_cons, hp]
          simp
        have la : acc.length ≤ xs.length := by
          rw [da.len, List.length_map]
          exact Nat.le_trans (List.length_filter_le _ _) (by rw [List.length_take]; exact Nat.min_le_right _ _)
        refine ⟨acc, hD4, size_lt (by have l2 : acc.length ≤ i := by
                                        rw [da.len, List.length_map]
                                        exact Nat.le_trans (List.length_filter_le _ _) (by rw [List.length_take]; exact Nat.min_le_left _ _)
                                      omega), by omega, B4, acc ++ [v], ee.trans w4.b, w4.i.mut nD4, (((e3.trans w2.h).trans w3.h).trans w4.h).mut hD, fr4, nD4, upd_same, ?_⟩
        rw [et]
        exact (da.up ((w2.b.trans w3.b).trans w4.b)).app (.cons d4 .nil)
    · have ei : i = xs.length := by omega
      subst ei
      rw [List.take_length] at da
      refine .inl ⟨y2 (by simp), k _ (upd Bi D (.lst acc)) H' ⟨(w1.b.trans e1).trans (Ex.new nD), fun a u q => ?_, w1.h.trans e3, fun a u q n => ?_⟩ (.lst upd_same (da.up (Ex.new nD)))⟩
      · by_cases z : a = D
        · subst z
          rw [upd_same] at q
          rw [hD', ← q]
        · rw [upd_ne z] at q
          exact e2 _ _ q
      · by_cases z : a = D
        · subst z
          exact w1.h.back hD
        · rw [upd_ne z] at q
          cases z2 : B1 a with
          | some t => exact w1.fr a t z2 n
          | none => exact w1.h.back (fr a u q z2)
/-- without a test -/
theorem de_map (hi : DI wi env (xs.map enc)) (hl : xs.length ≤ 1000000) (hj : ∀ j ∈ js, j ∈ vs) (hg : ∀ x ∈ xs, DG g (wipeE env vs) (enc x) (envf x) js) (he : ∀ x ∈ xs, DE te (envf x) (f x)) :
    DE (tLc wi g tYes te vs) env (.list (xs.map f)) := by
  have h := de_lc (p := fun _ => true) (tt := tYes) hi hl hj hg (fun x _ => dt_yes) (fun x hx _ => he x hx)
  have e : xs.filter (fun _ => true) = xs := List.filter_eq_self.mpr fun _ _ => rfl
  rw [e] at h
  exact h
end

theorem own_once {a : Addr} : ∀ (l : EnvT) (i j : Nat) (p r : OwnP), i ≠ j → l[i]? = some (.own a p) → l[j]? = some (.own a r) → (owned l).Nodup → False
  | [], i, j, p, r, _, h, _, _ => by simp at h
  | s :: l, 0, 0, p, r, ne, _, _, _ => ne rfl
  | s :: l, 0, j + 1, p, r, ne, h1, h2, nd => by
    rw [owned_cons] at nd
    have e : s = .own a p := by simpa using h1
    subst e
    exact (List.nodup_append.mp nd).2.2 a (by simp [ownerOf]) a (owned_mem (i := j) (p := r) (by simpa using h2)) rfl
  | s :: l, i + 1, 0, p, r, ne, h1, h2, nd => by
    rw [owned_cons] at nd
    have e : s = .own a r := by simpa using h2
    subst e
    exact (List.nodup_append.mp nd).2.2 a (by simp [ownerOf]) a (owned_mem (i := i) (p := p) (by simpa using h1)) rfl
  | s :: l, i + 1, j + 1, p, r, ne, h1, h2, nd => by
    rw [owned_cons] at nd
    exact own_once l i j p r (by omega) (by simpa using h1) (by simpa using h2) (List.nodup_append.mp nd).2.1

/-! ### statements -/
/-- where a body began: its data, its heap; data that is there from now on -/
structure Bs where
  B0 : Hp
  H0 : Hp
  Bm : Hp
def SS (b : Bs) (env : EnvT) (σ : L2.St) (H : Hp) : Prop := ∃ B, Ex b.Bm B ∧ Wd b.B0 b.H0 B H ∧ EnvOk B H env σ ∧ ∀ a ∈ owned env, b.H0 a = none
abbrev Go (b : Bs) (env : EnvT) (W : L2.St → Hp → Prop) : Prop := ∀ σ H, SS b env σ H → W σ H
section
variable {b : Bs} {env env' : EnvT} {te ta tb : TE} {tt : TT} {ts : TA} {t u : TS} {D : Ends} {d x y : PyData} {K : PySem.W.Frag} {W : L2.St → Hp → Prop}
/-- a step of an expression within a body -/
theorem SS.step {σ : L2.St} {B H B' H' : Hp} (e1 : Ex b.Bm B) (w1 : Wd b.B0 b.H0 B H) (o : EnvOk B H env σ) (f : ∀ a ∈ owned env, b.H0 a = none) (w : Wd B H B' H') : Ex b.Bm B' ∧ Wd b.B0 b.H0 B' H' ∧ EnvOk B' H' env σ :=
  ⟨e1.trans w.b, w1.trans w, o.wd w⟩
theorem go_asg {i : Nat} (h : DE te env d) (k : Go b (env.set i (.dat d)) D.nx) : Go b env (tAsg te (gName i) D) := fun σ H ⟨B, e1, w1, o, f⟩ =>
  h B σ H _ w1.i o fun v B' H' w d' => k _ _ ⟨B', e1.trans w.b, w1.trans w, (o.wd w).setD d', fun a ha => by
    rcases owned_set_mem ha with z | z
    · cases z
    · exact f a z⟩
theorem gs_asg {i : Nat} (h : DE te env d) (k : Go b (env.set i (.dat d)) (u D)) : Go b env (tSeq (tAsg te (gName i)) u D) := go_asg (D := { D with nx := u D }) h k
theorem go_drop (h : DE te env d) (k : Go b env D.nx) : Go b env (tDrop te D) := fun σ H ⟨B, e1, w1, o, f⟩ =>
  h B σ H _ w1.i o fun v B' H' w d' => k _ _ ⟨B', e1.trans w.b, w1.trans w, o.wd w, f⟩
theorem gs_drop (h : DE te env d) (k : Go b env (u D)) : Go b env (tSeq (tDrop te) u D) := go_drop (D := { D with nx := u D }) h k
theorem go_ret (h : DE te env d) (k : ∀ v B' H', Wd b.B0 b.H0 B' H' → Dd B' v d → D.rt v H') : Go b env (tRet te D) := fun σ H ⟨B, e1, w1, o, f⟩ =>
  h B σ H _ w1.i o fun v B' H' w d' => k v B' H' (w1.trans w) d'
theorem gs_ret (h : DE te env d) (k : ∀ v B' H', Wd b.B0 b.H0 B' H' → Dd B' v d → D.rt v H') : Go b env (tSeq (tRet te) u D) := go_ret (D := { D with nx := u D }) h k
/-- a return that tells the slots, too -/
theorem go_retO (h : DE te env d) (k : ∀ v B' H' σ, Wd b.B0 b.H0 B' H' → EnvOk B' H' env σ → Dd B' v d → D.rt v H') : Go b env (tRet te D) := fun σ H ⟨B, e1, w1, o, f⟩ =>
  h B σ H _ w1.i o fun v B' H' w d' => k v B' H' σ (w1.trans w) (o.wd w) d'
theorem go_if {c : Bool} (h : DT tt env c) (h1 : c = true → Go b env (t D)) (h2 : c = false → Go b env (u D)) : Go b env (tIfS tt t u D) := fun σ H ⟨B, e1, w1, o, f⟩ =>
  h B σ H _ w1.i o fun B' H' w => by
    cases c with
    | true => exact h1 rfl σ H' ⟨B', e1.trans w.b, w1.trans w, o.wd w, f⟩
    | false => exact h2 rfl σ H' ⟨B', e1.trans w.b, w1.trans w, o.wd w, f⟩
theorem gs_if {t2 : TS} {c : Bool} (h : DT tt env c) (h1 : c = true → Go b env (t { D with nx := t2 D })) (h2 : c = false → Go b env (u { D with nx := t2 D })) : Go b env (tSeq (tIfS tt t u) t2 D) := go_if (D := { D with nx := t2 D }) h h1 h2
theorem gs_when {t2 : TS} {c : Bool} (h : DT tt env c) (h1 : c = true → Go b env (t { D with nx := t2 D })) (h2 : c = false → Go b env (t2 D)) : Go b env (tSeq (tIfS tt t tNext) t2 D) := go_if (D := { D with nx := t2 D }) h h1 h2
theorem go_when {c : Bool} (h : DT tt env c) (h1 : c = true → Go b env (t D)) (h2 : c = false → Go b env D.nx) : Go b env (tIfS tt t tNext D) := go_if h h1 h2
theorem go_par {i j : Nat} (h : DA ts env [x, y]) (k : Go b ((env.set i (.dat x)).set j (.dat y)) D.nx) : Go b env (tPar i j ts D) := fun σ H ⟨B, e1, w1, o, f⟩ =>
  h B σ H _ w1.i o fun vs B' H' w d' => by
    obtain ⟨v, q, rfl, hv, hq⟩ := d'.two
    refine ⟨v, q, rfl, k _ _ ⟨B', e1.trans w.b, w1.trans w, ((o.wd w).setD hv).setD hq, fun a ha => ?_⟩⟩
    rcases owned_set_mem ha with z | z
    · cases z
    · rcases owned_set_mem z with z | z
      · cases z
      · exact f a z
theorem gs_par {i j : Nat} (h : DA ts env [x, y]) (k : Go b ((env.set i (.dat x)).set j (.dat y)) (u D)) : Go b env (tSeq (tPar i j ts) u D) := go_par (D := { D with nx := u D }) h k
theorem go_unp {i j : Nat} (h : DE te env (.tuple [x, y])) (k : Go b ((env.set i (.dat x)).set j (.dat y)) D.nx) : Go b env (tAsg te (gTup K 2 (gCons (gName i) (gCons (gName j) gNil))) D) := fun σ H ⟨B, e1, w1, o, f⟩ =>
  h B σ H _ w1.i o fun v B' H' w d' => dg_pair B' σ H' v _ w.i ((o.wd w)) d' fun σ' o' _ => k _ _ ⟨B', e1.trans w.b, w1.trans w, o', fun a ha => by
    rcases owned_set_mem ha with z | z
    · cases z
    · rcases owned_set_mem z with z | z
      · cases z
      · exact f a z⟩
theorem gs_unp {i j : Nat} (h : DE te env (.tuple [x, y])) (k : Go b ((env.set i (.dat x)).set j (.dat y)) (u D)) : Go b env (tSeq (tAsg te (gTup K 2 (gCons (gName i) (gCons (gName j) gNil)))) u D) := go_unp (D := { D with nx := u D }) h k
theorem go_aug {i : Nat} {f : Int → Int → Int} {m n : Int} (hx : env[i]? = some (.dat (.int m))) (h : DE te env (.int n)) (k : Go b (env.set i (.dat (.int (f m n)))) D.nx) : Go b env (tAug i te (ipI f) D) := fun σ H ⟨B, e1, w1, o, fo⟩ => by
  obtain ⟨z, q1, v, q2, q3⟩ := o.at_ i _ hx
  subst q2
  cases q3
  refine ⟨_, q1, h B σ H _ w1.i o fun v B' H' w d' => ?_⟩
  cases d'
  exact ⟨m, n, rfl, rfl, k _ _ ⟨B', e1.trans w.b, w1.trans w, (o.wd w).setD (.int _), fun a ha => by
    rcases owned_set_mem ha with z | z
    · cases z
    · exact fo a z⟩⟩
theorem gs_aug {i : Nat} {f : Int → Int → Int} {m n : Int} (hx : env[i]? = some (.dat (.int m))) (h : DE te env (.int n)) (k : Go b (env.set i (.dat (.int (f m n)))) (u D)) : Go b env (tSeq (tAug i te (ipI f)) u D) := go_aug (D := { D with nx := u D }) hx h k

/-! ### lists that one owns -/
theorem go_newL {i : Nat} (k : ∀ a, a ∉ owned env → Go b (env.set i (.own a (lstP []))) D.nx) : Go b env (tAsg (tLst tNil) (gName i) D) := fun σ H ⟨B, e1, w1, o, f⟩ =>
  ⟨Nat.zero_le _, fun p hp => by
    have w := Wd.side (o := .lst []) w1.i hp
    have np : p ∉ owned env := fun hm => by
      obtain ⟨_, z, hz⟩ := o.own_at hm
      rw [hp] at hz
      cases hz
    refine k p np _ _ ⟨B, e1, w1.trans w, (o.wd w).set ⟨rfl, w1.i.back hp, ⟨_, upd_same, [], rfl, .nil⟩, lstP.mon []⟩ fun a ha => ?_, fun a ha => ?_⟩
    · have e : a = p := by simpa [ownerOf] using ha
      subst e
      exact .inl np
    · rcases owned_set_mem ha with z | z
      · have e : a = p := by simpa [ownerOf] using z
        subst e
        exact w1.h.back hp
      · exact f a z⟩
theorem gs_newL {i : Nat} (k : ∀ a, a ∉ owned env → Go b (env.set i (.own a (lstP []))) (u D)) : Go b env (tSeq (tAsg (tLst tNil) (gName i)) u D) := go_newL (D := { D with nx := u D }) k
/-- an owned thing is changed -/
theorem SS.mut {σ : L2.St} {B H : Hp} {i : Nat} {a : Addr} {p q : OwnP} {o' : HO} (e1 : Ex b.Bm B) (w1 : Wd b.B0 b.H0 B H) (o : EnvOk B H env σ) (f : ∀ a ∈ owned env, b.H0 a = none) (hi : env[i]? = some (.own a p)) (hq : q B o') (mq : MonP q) :
    SS b (env.set i (.own a q)) σ (upd H a o') := by
  have ma := owned_mem hi
  obtain ⟨nB, u, hu⟩ := o.own_at ma
  refine ⟨B, e1, ⟨w1.b, w1.i.mut nB, w1.h.mut (f a ma), w1.fr⟩, ?_, fun c hc => ?_⟩
  · have o2 : EnvOk B (upd H a o') (env.set i .any) σ := by
      have z := (o.setAny (i := i) σ[i]?.join)
      have es : σ.set i σ[i]?.join = σ := by
        apply List.ext_getElem?
        intro j
        rw [List.getElem?_set]
        by_cases e : i = j
        · subst e
          simp only [if_true]
          by_cases hl : i < σ.length
          · rw [if_pos hl, List.getElem?_eq_getElem hl]
            rfl
          · rw [if_neg hl, List.getElem?_eq_none (by omega)]
        · rw [if_neg e]
      rw [es] at z
      have na : a ∉ owned (env.set i .any) := fun hm => by
        obtain ⟨j, r, hj⟩ := mem_owned hm
        by_cases e : i = j
        · subst e
          rw [List.getElem?_set_self (List.getElem?_eq_some_iff.mp hi).1] at hj
          cases hj
        · rw [List.getElem?_set_ne e] at hj
          -- a owned twice
          exact own_once env i j p r e hi hj o.nd
      exact z.go (Ex.refl B) (fun c hc v hv => by rw [upd_ne (fun e : c = a => na (by rw [← e]; exact hc))]; exact hv) fun c hc => (z.own_at hc).1
    obtain ⟨x, hx, ex, _⟩ := o.at_ i _ hi
    have na : a ∉ owned (env.set i .any) ∨ ∃ p, (env.set i .any)[i]? = some (.own a p) := by
      left
      intro hm
      obtain ⟨j, r, hj⟩ := mem_owned hm
      obtain ⟨z, q1, q2, q3, ⟨w, q4, _⟩, _⟩ := o2.at_ j _ hj
      -- it stands there with the new content, and was not there before
      by_cases e : i = j
      · subst e
        rw [List.getElem?_set_self (List.getElem?_eq_some_iff.mp hi).1] at hj
        cases hj
      · rw [List.getElem?_set_ne e] at hj
        exact own_once env i j p r e hi hj o.nd
    have r := o2.set (i := i) (s := .own a q) (x := x) ⟨ex, nB, ⟨_, upd_same, hq⟩, mq⟩ fun c hc => by
      have e : c = a := by simpa [ownerOf] using hc
      subst e
      exact na
    rw [List.set_set] at r
    have es : σ.set i x = σ := by
      apply List.ext_getElem?
      intro j
      rw [List.getElem?_set]
      by_cases e : i = j
      · subst e
        simp only [if_true]
        rw [if_pos (List.getElem?_eq_some_iff.mp hx).1, hx]
      · rw [if_neg e]
    rw [es] at r
    exact r
  · rcases owned_set_mem hc with z | z
    · have e : c = a := by simpa [ownerOf] using z
      subst e
      exact f _ ma
    · exact f c z
theorem go_app {i : Nat} {a : Addr} {ds : List PyData} (hi : env[i]? = some (.own a (lstP ds))) (h : DE te env d) (hl : ds.length < 1000000) (k : Go b (env.set i (.own a (lstP (ds ++ [d])))) D.nx) :
    Go b env (tDrop (tBM K "list" rAppend (tVar i) (tCons te tNil)) D) := fun σ H ⟨B, e1, w1, o, f⟩ => by
  obtain ⟨x, q1, q2, q3, ⟨u, q4, xs, q5, q6⟩, q7⟩ := o.at_ i _ hi
  subst q2 q5
  refine ⟨_, q1, .inl ⟨rfl, _, SqL.of q4⟩, h B σ H _ w1.i o fun v B' H' w d' => ⟨a, xs, v, rfl, rfl, w.h _ _ q4, by rw [q6.len]; exact size_lt hl, ?_⟩⟩
  exact k _ _ (SS.mut (e1.trans w.b) (w1.trans w) (o.wd w) f hi ⟨_, rfl, (q6.up w.b).app (.cons d' .nil)⟩ (lstP.mon _))
theorem gs_app {i : Nat} {a : Addr} {ds : List PyData} (hi : env[i]? = some (.own a (lstP ds))) (h : DE te env d) (hl : ds.length < 1000000) (k : Go b (env.set i (.own a (lstP (ds ++ [d])))) (u D)) :
    Go b env (tSeq (tDrop (tBM K "list" rAppend (tVar i) (tCons te tNil))) u D) := go_app (D := { D with nx := u D }) hi h hl k
/-- a[k] = e -/
theorem go_store {i j : Nat} {a : Addr} {ds : List PyData} (hi : env[i]? = some (.own a (lstP ds))) (h : DE te env d) (hj : j < ds.length) (k : Go b (env.set i (.own a (lstP (ds.set j d)))) D.nx) :
    Go b env (tAsg te (gSub (tVar i) (tC (.int (j : Int))) rSetL) D) := fun σ H ⟨B, e1, w1, o, f⟩ => by
  obtain ⟨x, q1, q2, q3, ⟨u, q4, xs, q5, q6⟩, q7⟩ := o.at_ i _ hi
  subst q2 q5
  refine h B σ H _ w1.i o fun v B' H' w d' => ⟨_, q1, a, xs, (j : Int), j, rfl, rfl, w.h _ _ q4, ?_, k _ _ (SS.mut (e1.trans w.b) (w1.trans w) (o.wd w) f hi ⟨_, rfl, DdA.set d' j (q6.up w.b)⟩ (lstP.mon _))⟩
  unfold ixN
  rw [if_pos (by omega), if_pos (by rw [q6.len]; omega)]
  simp
theorem gs_store {i j : Nat} {a : Addr} {ds : List PyData} (hi : env[i]? = some (.own a (lstP ds))) (h : DE te env d) (hj : j < ds.length) (k : Go b (env.set i (.own a (lstP (ds.set j d)))) (u D)) :
    Go b env (tSeq (tAsg te (gSub (tVar i) (tC (.int (j : Int))) rSetL)) u D) := go_store (D := { D with nx := u D }) hi h hj k
/-- an item of a list that one owns -/
theorem de_ixO {i : Nat} {a : Addr} {ds : List PyData} {j : Int} (hi : env[i]? = some (.own a (lstP ds))) (hb : DE tb env (.int j)) (h : atI ds j = some d) : DE (tOp (rIxL K) (tVar i) tb) env d := fun B σ H Q e o k => by
  obtain ⟨x, q1, q2, q3, ⟨u, q4, xs, q5, q6⟩, q7⟩ := o.at_ i _ hi
  subst q2 q5
  refine ⟨_, q1, hb B σ H _ e o fun v B' H' w d' => ?_⟩
  cases d'
  obtain ⟨t, g1, g2⟩ := atI_dd (q6.up w.b) h
  exact ⟨a, xs, j, t, rfl, rfl, SqL.of (w.h _ _ q4), g1, k t B' H' w g2⟩

/-- from now on it is data -/
theorem EnvOk.frz {B H : Hp} {σ : L2.St} {i : Nat} {a : Addr} {ds : List PyData} (e : Ex B H) (o : EnvOk B H env σ) (hi : env[i]? = some (.own a (lstP ds))) :
    ∃ xs, B a = none ∧ H a = some (.lst xs) ∧ Ex B (upd B a (.lst xs)) ∧ Ex (upd B a (.lst xs)) H ∧ EnvOk (upd B a (.lst xs)) H (env.set i (.dat (.list ds))) σ := by
  obtain ⟨x, q1, q2, q3, ⟨u, q4, xs, q5, q6⟩, q7⟩ := o.at_ i _ hi
  subst q2 q5
  have en : Ex B (upd B a (.lst xs)) := Ex.new q3
  refine ⟨xs, q3, q4, en, fun c v hc => ?_, ?_⟩
  · by_cases z : c = a
    · subst z
      rw [upd_same] at hc
      rw [q4, ← hc]
    · rw [upd_ne z] at hc
      exact e _ _ hc
  · refine ⟨by rw [List.length_set]; exact o.len, fun j s hj => ?_, owned_set_nd o.nd fun c hc => by cases hc⟩
    by_cases z : i = j
    · subst z
      rw [List.getElem?_set_self (List.getElem?_eq_some_iff.mp hi).1] at hj
      cases hj
      exact ⟨_, q1, _, rfl, .lst upd_same (q6.up en)⟩
    · rw [List.getElem?_set_ne z] at hj
      obtain ⟨x, g1, g2⟩ := o.at_ j s hj
      refine ⟨x, g1, ?_⟩
      cases s with
      | any => trivial
      | dat d =>
        obtain ⟨v, h1, h2⟩ := g2
        exact ⟨v, h1, h2.up en⟩
      | own c p =>
        obtain ⟨h1, h2, ⟨w, h3, h4⟩, h5⟩ := g2
        have nc : c ≠ a := by
          rintro rfl
          exact own_once env i j _ _ z hi hj o.nd
        exact ⟨h1, by rw [upd_ne nc]; exact h2, ⟨w, h3, h5 _ _ _ en h4⟩, h5⟩
theorem go_frz {i : Nat} {a : Addr} {ds : List PyData} (hi : env[i]? = some (.own a (lstP ds))) (k : Go b (env.set i (.dat (.list ds))) W) : Go b env W := fun σ H ⟨B, e1, w1, o, f⟩ => by
  obtain ⟨xs, n, h, en, eh, o'⟩ := o.frz w1.i hi
  refine k σ H ⟨_, e1.trans en, ⟨w1.b.trans en, eh, w1.h, fun c u hc nc => ?_⟩, o', fun c hc => ?_⟩
  · by_cases z : c = a
    · subst z
      exact f _ (owned_mem hi)
    · rw [upd_ne z] at hc
      exact w1.fr c u hc nc
  · rcases owned_set_mem hc with z | z
    · cases z
    · exact f c z
/-- for a test: read as data -/
theorem dt_frz {i : Nat} {a : Addr} {ds : List PyData} {c : Bool} (hi : env[i]? = some (.own a (lstP ds))) (h : DT tt (env.set i (.dat (.list ds))) c) : DT tt env c := fun B σ H Q e o k => by
  obtain ⟨xs, n, hh, en, eh, o'⟩ := o.frz e hi
  exact h _ σ H Q eh o' fun B' H' w => k B H' ⟨Ex.refl B, e.trans w.h, w.h, fun a u q z => by rw [q] at z; cases z⟩
def scalarD : PyData → Bool
  | .none => true
  | .bool _ => true
  | .int _ => true
  | _ => false
theorem de_frz {i : Nat} {a : Addr} {ds : List PyData} (hi : env[i]? = some (.own a (lstP ds))) (sc : scalarD d = true) (h : DE te (env.set i (.dat (.list ds))) d) : DE te env d := fun B σ H Q e o k => by
  obtain ⟨xs, n, hh, en, eh, o'⟩ := o.frz e hi
  refine h _ σ H Q eh o' fun v B' H' w dv => k v B H' ⟨Ex.refl B, e.trans w.h, w.h, fun a u q z => by rw [q] at z; cases z⟩ ?_
  cases dv with
  | non => exact .non
  | bl b => exact .bl b
  | int i => exact .int i
  | lst _ _ => cases sc
  | tup _ _ => cases sc

/-! ### knowing less -/
inductive LeE : EnvT → EnvT → Prop
  | nil : LeE [] []
  | any {s : Slot} {l m : EnvT} : LeE l m → LeE (s :: l) (.any :: m)
  | eq {s : Slot} {l m : EnvT} : LeE l m → LeE (s :: l) (s :: m)
theorem LeE.refl : ∀ l : EnvT, LeE l l
  | [] => .nil
  | _ :: l => .eq (LeE.refl l)
theorem LeE.len : ∀ {l m : EnvT}, LeE l m → l.length = m.length
  | _, _, .nil => rfl
  | _, _, .any h => by rw [List.length_cons, List.length_cons, h.len]
  | _, _, .eq h => by rw [List.length_cons, List.length_cons, h.len]
theorem LeE.get : ∀ {l m : EnvT} {i : Nat} {s : Slot}, LeE l m → m[i]? = some s → s = .any ∨ l[i]? = some s
  | _, _, i, s, .nil, h => by simp at h
  | _, _, 0, s, .any _, h => by
    left
    simpa [eq_comm] using h
  | _, _, i + 1, s, .any k, h => by
    rcases LeE.get (i := i) (s := s) k (by simpa using h) with z | z
    · exact .inl z
    · exact .inr (by simpa using z)
  | _, _, 0, s, .eq _, h => by
    right
    simpa using h
  | _, _, i + 1, s, .eq k, h => by
    rcases LeE.get (i := i) (s := s) k (by simpa using h) with z | z
    · exact .inl z
    · exact .inr (by simpa using z)
theorem LeE.owned : ∀ {l m : EnvT}, LeE l m → (owned m).Sublist (owned l)
  | _, _, .nil => List.Sublist.refl _
  | _, _, .any (s := s) h => by
    rw [owned_cons, owned_cons]
    exact List.Sublist.trans h.owned (List.sublist_append_right _ _)
  | _, _, .eq h => by
    rw [owned_cons, owned_cons]
    exact List.Sublist.append (List.Sublist.refl _) h.owned
theorem EnvOk.weak {B H : Hp} {σ : L2.St} (o : EnvOk B H env σ) (l : LeE env env') : EnvOk B H env' σ := by
  refine ⟨by rw [← l.len]; exact o.len, fun i s h => ?_, o.nd.sublist l.owned⟩
  rcases l.get h with z | z
  · subst z
    have hl : i < σ.length := by
      rw [← o.len, l.len]
      exact (List.getElem?_eq_some_iff.mp h).1
    exact ⟨σ[i], List.getElem?_eq_getElem hl, trivial⟩
  · exact o.at_ i s z
theorem SS.weak {σ : L2.St} {H : Hp} (h : SS b env σ H) (l : LeE env env') : SS b env' σ H := by
  obtain ⟨B, e1, w1, o, f⟩ := h
  exact ⟨B, e1, w1, o.weak l, fun a ha => f a (l.owned.subset ha)⟩
theorem go_weak (l : LeE env env') (k : Go b env' W) : Go b env W := fun σ H h => k σ H (h.weak l)
theorem go_end (l : LeE env env') : Go b env (SS b env') := fun σ H h => h.weak l

/-! ### loops -/
/-- a further list of data is there to stay -/
abbrev Bs.at (b : Bs) (B : Hp) : Bs := { b with Bm := B }
theorem go_for {α : Type} {xs : List α} {enc : α → PyData} {wi : TI} {g : TG} {tb : TS} {js : List Nat} {envf : List α → α → EnvT} (E : List α → EnvT) (I : List α → Prop) (hi : DI wi env (xs.map enc)) (h0 : LeE env (E [])) (i0 : I [])
    (hg : ∀ pre x, DG g (E pre) (enc x) (envf pre x) js) (ho : ∀ pre x, ∀ a ∈ owned (envf pre x), a ∈ owned (E pre))
    (hs : ∀ (pre : List α) (x : α) (post : List α) (c : Bs), xs = pre ++ x :: post → I pre → c.B0 = b.B0 → c.H0 = b.H0 → Go c (envf pre x) (tb { D with nx := fun σ H => I (pre ++ [x]) ∧ SS c (E (pre ++ [x])) σ H, ct := fun σ H => I (pre ++ [x]) ∧ SS c (E (pre ++ [x])) σ H, bk := D.nx }))
    (hd : I xs → Go b (E xs) D.nx) : Go b env (tFor wi g tb D) := fun σ H ⟨B, e1, w1, o, f⟩ =>
  hi B σ H _ w1.i o fun J B1 H1 w yl => by
    have s1 : SS (b.at B1) (E []) σ H1 := SS.weak ⟨B1, Ex.refl _, w1.trans w, o.wd w, f⟩ h0
    refine ⟨fun i m σ' H' => m = xs.length - i ∧ i ≤ xs.length ∧ I (xs.take i) ∧ SS (b.at B1) (E (xs.take i)) σ' H', ⟨xs.length, rfl, Nat.zero_le _, i0, s1⟩, ?_⟩
    rintro i m σ' H' ⟨rfl, hle, inv, B2, e2, w2, o2, f2⟩
    obtain ⟨y1, y2⟩ := yl B2 H' i e2 w2.i
    rcases Nat.lt_or_ge i xs.length with c | c
    · have hx : xs[i]? = some xs[i] := List.getElem?_eq_getElem c
      generalize xs[i] = x at hx
      obtain ⟨g1, g2⟩ := y1 (enc x) (by rw [List.getElem?_map, hx]; rfl)
      have sp : xs = xs.take i ++ x :: xs.drop (i + 1) := by
        have z := (List.take_append_drop i xs).symm
        rw [List.drop_eq_getElem_cons c] at z
        have ex : xs[i] = x := by
          rw [List.getElem?_eq_getElem c] at hx
          exact Option.some.inj hx
        rw [ex] at z
        exact z
      refine .inr ⟨g1, fun σ2 H2 => I (xs.take i ++ [x]) ∧ SS (b.at B1) (E (xs.take i ++ [x])) σ2 H2, fun σ2 H2 q => ⟨xs.length - (i + 1), by omega, rfl, c, by rw [take_next hx]; exact q⟩, fun v H2 hy => ?_⟩
      obtain ⟨B3, w3, d3⟩ := g2 v H2 hy
      refine hg (xs.take i) x B3 σ' H2 v _ w3.i (o2.wd w3) d3 fun σ3 o3 _ => ?_
      exact hs (xs.take i) x _ (b.at B1) sp inv rfl rfl σ3 H2 ⟨B3, e2.trans w3.b, w2.trans w3, o3, fun a ha => f2 a (ho _ _ a ha)⟩
    · have ei : i = xs.length := by omega
      subst ei
      rw [List.take_length] at inv o2 f2
      exact .inl ⟨y2 (by simp), hd inv σ' H' ⟨B2, (e1.trans w.b).trans e2, w2, o2, f2⟩⟩
theorem gs_for {α : Type} {xs : List α} {enc : α → PyData} {wi : TI} {g : TG} {tb : TS} {js : List Nat} {envf : List α → α → EnvT} (E : List α → EnvT) (I : List α → Prop) (hi : DI wi env (xs.map enc)) (h0 : LeE env (E [])) (i0 : I [])
    (hg : ∀ pre x, DG g (E pre) (enc x) (envf pre x) js) (ho : ∀ pre x, ∀ a ∈ owned (envf pre x), a ∈ owned (E pre))
    (hs : ∀ (pre : List α) (x : α) (post : List α) (c : Bs), xs = pre ++ x :: post → I pre → c.B0 = b.B0 → c.H0 = b.H0 → Go c (envf pre x) (tb { D with nx := fun σ H => I (pre ++ [x]) ∧ SS c (E (pre ++ [x])) σ H, ct := fun σ H => I (pre ++ [x]) ∧ SS c (E (pre ++ [x])) σ H, bk := u D }))
    (hd : I xs → Go b (E xs) (u D)) : Go b env (tSeq (tFor wi g tb) u D) := go_for (D := { D with nx := u D }) E I hi h0 i0 hg ho hs hd
/-- the loop's variable in slot j -/
theorem gs_forN {α : Type} {xs : List α} {enc : α → PyData} {wi : TI} {tb : TS} {j : Nat} (E : List α → EnvT) (I : List α → Prop) (hi : DI wi env (xs.map enc)) (h0 : LeE env (E [])) (i0 : I [])
    (hs : ∀ (pre : List α) (x : α) (post : List α) (c : Bs), xs = pre ++ x :: post → I pre → c.B0 = b.B0 → c.H0 = b.H0 → Go c ((E pre).set j (.dat (enc x))) (tb { D with nx := fun σ H => I (pre ++ [x]) ∧ SS c (E (pre ++ [x])) σ H, ct := fun σ H => I (pre ++ [x]) ∧ SS c (E (pre ++ [x])) σ H, bk := u D }))
    (hd : I xs → Go b (E xs) (u D)) : Go b env (tSeq (tFor wi (gName j) tb) u D) :=
  gs_for (envf := fun pre x => (E pre).set j (.dat (enc x))) (js := [j]) E I hi h0 i0 (fun _ _ => dg_name) (fun pre x a ha => by
    rcases owned_set_mem ha with z | z
    · cases z
    · exact z) hs hd
theorem go_forN {α : Type} {xs : List α} {enc : α → PyData} {wi : TI} {tb : TS} {j : Nat} (E : List α → EnvT) (I : List α → Prop) (hi : DI wi env (xs.map enc)) (h0 : LeE env (E [])) (i0 : I [])
    (hs : ∀ (pre : List α) (x : α) (post : List α) (c : Bs), xs = pre ++ x :: post → I pre → c.B0 = b.B0 → c.H0 = b.H0 → Go c ((E pre).set j (.dat (enc x))) (tb { D with nx := fun σ H => I (pre ++ [x]) ∧ SS c (E (pre ++ [x])) σ H, ct := fun σ H => I (pre ++ [x]) ∧ SS c (E (pre ++ [x])) σ H, bk := D.nx }))
    (hd : I xs → Go b (E xs) D.nx) : Go b env (tFor wi (gName j) tb D) :=
  go_for (envf := fun pre x => (E pre).set j (.dat (enc x))) (js := [j]) E I hi h0 i0 (fun _ _ => dg_name) (fun pre x a ha => by
    rcases owned_set_mem ha with z | z
    · cases z
    · exact z) hs hd
/-- a turn's end -/
theorem go_turn {P : Prop} (p : P) (l : LeE env env') : Go b env (fun σ H => P ∧ SS b env' σ H) := fun σ H h => ⟨p, h.weak l⟩
theorem gs_while {S : Type} {tw : TT} {tb : TS} (E : S → EnvT) (μ : S → Nat) (s0 : S) (h0 : LeE env (E s0))
    (hs : ∀ s, ∃ c, DT tw (E s) c ∧ (c = true → ∃ s', μ s' < μ s ∧ Go b (E s) (tb { D with nx := SS b (E s'), ct := SS b (E s'), bk := u D })) ∧ (c = false → Go b (E s) (u D))) : Go b env (tSeq (tWhile tw tb) u D) := fun σ H h => by
  refine ⟨fun m σ' H' => ∃ s, m = μ s ∧ SS b (E s) σ' H', ⟨μ s0, s0, rfl, h.weak h0⟩, ?_⟩
  rintro m σ' H' ⟨s, rfl, B, e1, w1, o, f⟩
  obtain ⟨c, h1, h2, h3⟩ := hs s
  refine h1 B σ' H' _ w1.i o fun B' H2 w => ?_
  have ss : SS b (E s) σ' H2 := ⟨B', e1.trans w.b, w1.trans w, o.wd w, f⟩
  cases c with
  | true =>
    obtain ⟨s', hlt, hb⟩ := h2 rfl
    exact ⟨SS b (E s'), fun σ2 H3 q => ⟨μ s', hlt, s', rfl, q⟩, hb σ' H2 ss⟩
  | false => exact h3 rfl σ' H2 ss
end

/-! ### promises -/
def spD (g : List PyData → PyData → Prop) : Sp := fun vs H Q _ => ∃ B ds r, Ex B H ∧ DdA B vs ds ∧ g ds r ∧ ∀ v B' H', Wd B H B' H' → Dd B' v r → Q v H'
theorem de_call {g : List PyData → PyData → Prop} {env : EnvT} {ts : TA} {ds : List PyData} {r : PyData} (h : DA ts env ds) (hg : g ds r) : DE (tCall (spD g) [] E0 ts) env r := fun B σ H Q e o k =>
  h B σ H _ e o fun vs B1 H1 w1 d1 => by
    show spD g (vs ++ []) H1 Q E0
    rw [List.append_nil]
    exact ⟨B1, ds, r, w1.i, d1, hg, fun v B' H' w d => k v B' H' (w1.trans w) d⟩
theorem spD_len {g : List PyData → PyData → Prop} {n : Nat} {vs : List V} {H : Hp} {Q : VK} {E : XK} (h : spD g vs H Q E) (k : ∀ ds r, g ds r → ds.length = n) : vs.length = n := by
  obtain ⟨B, ds, r, _, d, hg, _⟩ := h
  rw [d.len]
  exact k ds r hg
/-- the slots at the entry -/
def envOf (N : List Str) (ds : List PyData) : EnvT := ds.map .dat ++ List.replicate (N.length - ds.length) .any
theorem owned_dats : ∀ (ds : List PyData) (n : Nat), owned (ds.map .dat ++ List.replicate n .any) = []
  | [], 0 => rfl
  | [], n + 1 => by
    have ih := owned_dats [] n
    rw [List.replicate_succ]
    exact ih
  | d :: ds, n => owned_dats ds n
theorem env_start {B H : Hp} {vs : List V} {ds : List PyData} (N : List Str) (h : DdA B vs ds) : EnvOk B H (envOf N ds) (L2.start N vs) := by
  unfold envOf L2.start
  refine ⟨by simp [h.len], fun i s e => ?_, by rw [owned_dats]; exact List.nodup_nil⟩
  rw [← h.len] at e
  rcases Nat.lt_or_ge i ds.length with c | c
  · rw [List.getElem?_append_left (by simpa using c), List.getElem?_map] at e
    have hd : ds[i]? = some ds[i] := List.getElem?_eq_getElem c
    rw [hd] at e
    have e' : Slot.dat ds[i] = s := Option.some.inj e
    subst e'
    obtain ⟨v, h1, h2⟩ := h.get hd
    refine ⟨some v, ?_, v, rfl, h2⟩
    rw [List.getElem?_append_left (by rw [List.length_map, h.len]; exact c), List.getElem?_map, h1]
    rfl
  · rw [List.getElem?_append_right (by simpa using c), List.getElem?_replicate] at e
    split at e
    · rename_i hh
      cases e
      refine ⟨none, ?_, trivial⟩
      rw [List.getElem?_append_right (by rw [List.length_map, h.len]; exact c), List.getElem?_replicate, List.length_map, h.len]
      rw [List.length_map, h.len] at hh
      rw [if_pos hh]
    · cases e
/-- the ends of a body that is to give r -/
structure Gives (b : Bs) (D : Ends) (r : PyData) : Prop where
  rt : ∀ v B' H', Wd b.B0 b.H0 B' H' → Dd B' v r → D.rt v H'
  nx : r = .none → ∀ σ B' H', Wd b.B0 b.H0 B' H' → D.nx σ H'
theorem run_spD {g : List PyData → PyData → Prop} {N : List Str} {vs : List V} {H : Hp} {Q : VK} {E : XK} {t : TS} (h : spD g vs H Q E) (body : ∀ ds r, g ds r → ∀ (b : Bs) (D : Ends), Gives b D r → Go b (envOf N ds) (t D)) :
    t { nx := fun _ H' => Q .non H', rt := Q } (L2.start N vs) H := by
  obtain ⟨B, ds, r, e, d, hg, k⟩ := h
  refine body ds r hg ⟨B, H, B⟩ _ ⟨fun v B' H' w dv => k v B' H' w dv, fun er σ B' H' w => ?_⟩ _ _ ⟨B, Ex.refl B, Wd.refl e, env_start N d, fun a ha => ?_⟩
  · subst er
    exact k .non B' H' w .non
  · unfold envOf at ha
    rw [owned_dats] at ha
    cases ha
end LW

/-! The text, the names, chains, small facts. -/
namespace LW
open PySem PySem.Spec PyProof.Rows L2
open Evl (Ex)

section
variable {env : EnvT} {ta tb tc te : TE} {tt : TT} {x y z d : PyData} {K : PySem.W.Frag}
theorem de_chain {r r' : R2} {a c : Bool} (ha : DE ta env x) (hb : DE tb env y) (hr : DR2 r x y (.bool a)) (hc : a = true → DE tc env z) (hr' : a = true → DR2 r' y z (.bool c)) : DE (tChain r r' ta tb tc) env (.bool (a && c)) := fun B σ H Q e o k =>
  ha B σ H _ e o fun v B1 H1 w1 d1 => hb B1 σ H1 _ w1.i (o.wd w1) fun u B2 H2 w2 d2 => hr B2 H2 v u _ w2.i (d1.up w2.b) d2 fun q B3 H3 w3 d3 => by
    cases d3
    refine ⟨a, rfl, ?_⟩
    have w := (w1.trans w2).trans w3
    cases a with
    | true => exact hc rfl B3 σ H3 _ w3.i (o.wd w) fun t B4 H4 w4 d4 => hr' rfl B4 H4 u t Q w4.i (d2.up (w3.b.trans w4.b)) d4 fun q B5 H5 w5 d5 => k q B5 H5 ((w.trans w4).trans w5) d5
    | false => exact k _ B3 H3 w (.bl false)
/-- a <= b <= c of ints -/
theorem de_chainI {p p' : Int → Int → Bool} {i j m : Int} (ha : DE ta env (.int i)) (hb : DE tb env (.int j)) (hc : DE tc env (.int m)) : DE (tChain (rI0 fun i j => .bl (p i j)) (rI0 fun i j => .bl (p' i j)) ta tb tc) env (.bool (p i j && p' j m)) :=
  de_chain ha hb (dr_I0 fun _ => .bl _) (fun _ => hc) (fun _ => dr_I0 fun _ => .bl _)
theorem de_glob {v : V} (h : ∀ B, Dd B v d) : DE (tC v) env d := fun B σ H Q e o k => k v B H (Wd.refl e) (h B)
end

theorem Room.u65 {k : Nat} {A : Around} (r : Room k A) : A.units + 65 < cLine := by have := r.un; omega

/-- a def of the module: it keeps its promise, and where it is found -/
structure CalAt (P : Program) (w : World) (K : PySem.W.Frag) (mg : Str → Option Value) (base : Heap) (x : Str) (k : Nat) (f : Addr) (fd : FuncData) (ps : List Str) (sp : Sp) : Prop where
  ok : FnOk P w K mg base CX0 k f fd ps sp
  gl : mg x = some (.ref f)
  kp : (PySem.W.keepIn K (.ref f)) = true
  bi : Binds K fd ps []
def Cal (P : Program) (w : World) (K : PySem.W.Frag) (mg : Str → Option Value) (base : Heap) (x : Str) (k : Nat) (ps : List Str) (sp : Sp) : Prop := ∃ f fd, CalAt P w K mg base x k f fd ps sp
/-- where a def stands behind the top -/
structure Stands (K : PySem.W.Frag) (mg : Str → Option Value) (name : Str) (st : Stmt) (f : Addr) (fd : FuncData) : Prop where
  fn : Fun K name name st f fd
  gl : mg name = some (.ref f)

/-- the built-in names are the built-ins; the constants -/
structure Txt (mg : Str → Option Value) : Prop where
  n_len : mg "len" = none
  n_sum : mg "sum" = none
  n_zip : mg "zip" = none
  n_tuple : mg "tuple" = none
  n_list : mg "list" = none
  n_range : mg "range" = none
  n_isinstance : mg "isinstance" = none
  n_int : mg "int" = none
  n_bool : mg "bool" = none
  n_str : mg "str" = none
  n_abs : mg "abs" = none
  n_sorted : mg "sorted" = none
  n_set : mg "set" = none
  n_max : mg "max" = none
  n_min : mg "min" = none
  far : ∃ t, mg "FAR" = some (.int 50 t)
  most : ∃ t, mg "MOST_POINTS" = some (.int 12 t)

def topS (i : Nat) : Stmt := PySem.Challenge.pw_latticepoints_k09_whole_facets.main.body.getD i (.Pass ⟨0, 0, 0, 0⟩)

/-! ### data of ints -/
abbrev tI (l : List Int) : PyData := .tuple (l.map .int)
abbrev lI (l : List Int) : PyData := .list (l.map .int)
theorem shaped_int (i : Int) : SeqAt.shaped (.int i) = true := rfl
theorem kit_int_int : kitB "int" "int" = some true := by decide +kernel
theorem kit_int_bool : kitB "int" "bool" = some false := by decide +kernel
theorem kit_int_tuple : kitB "int" "tuple" = some false := by decide +kernel
theorem kit_int_list : kitB "int" "list" = some false := by decide +kernel
theorem kit_int_str : kitB "int" "str" = some false := by decide +kernel
theorem kit_tuple_tuple : kitB "tuple" "tuple" = some true := by decide +kernel
theorem kit_tuple_list : kitB "tuple" "list" = some false := by decide +kernel
theorem kit_tuple_int : kitB "tuple" "int" = some false := by decide +kernel
theorem kit_tuple_str : kitB "tuple" "str" = some false := by decide +kernel
theorem kit_list_tuple : kitB "list" "tuple" = some false := by decide +kernel
theorem kit_list_list : kitB "list" "list" = some true := by decide +kernel
end LW

/-! Nested data: in a tuple, sorted, dicts whose keys are pairs of a tuple of ints and an int. -/
namespace LW
open PySem PySem.Spec PyProof.Rows L2
open Evl (Ex)

/-! ### in a tuple -/
section
variable {X : Cx}
def rInDT (K : PySem.W.Frag) : R2 := fun x y H Q => ∃ d ds, Dp K H x d ∧ Dp K H y (.tuple ds) ∧ SeqAt.shaped d = true ∧ SeqAt.shaped (.tuple ds) = true ∧ Q (.bl (ds.any fun z => PyData.eqv z d)) H
theorem op_inDT (hu : X.A.units + 65 < cLine) : OpR X (compareOp .In) (rInDT X.K) := by
  intro pins s σ H x y v u Q I rx ry ⟨d, ds, hd, he, sd, se, q⟩
  obtain ⟨_, r1⟩ := Dp.reads I d x v hd rx
  obtain ⟨_, r2⟩ := Dp.reads I (.tuple ds) y u he ry
  exact SeqAt.in_tuple_reads r2 r1 (SeqAt.canLay_of_shaped se) (SeqAt.canLay_of_shaped sd) (room_in_shaped sd hu) ⟨.bl _, H, I, rfl, q⟩
end
theorem de_inT {ta tb : TE} {env : EnvT} {x : PyData} {K : PySem.W.Frag} {ds : List PyData} (ha : DE ta env x) (hb : DE tb env (.tuple ds)) (sx : SeqAt.shaped x = true) (sy : SeqAt.shaped (.tuple ds) = true) : DE (tOp (rInDT K) ta tb) env (.bool (ds.any fun z => PyData.eqv z x)) :=
  de_op ha hb fun B H v w Q e hx hy k => ⟨x, ds, Dd.dp e _ _ hx, Dd.dp e _ _ hy, sx, sy, k _ B H (Wd.refl e) (.bl _)⟩
theorem de_listRg {ta : TE} {env : EnvT} {n : Int} (h : DE ta env (.int n)) (hn : 0 ≤ n ∧ n ≤ 1000000) : DE (tLstRg (tRg1 ta)) env (.list ((List.range n.toNat).map fun (k : Nat) => .int (k : Int))) := fun B σ H Q e o k =>
  h B σ H _ e o fun v B1 H1 w1 d1 => by
    cases d1
    refine ⟨n, rfl, RgOk.of_le (by omega) (by omega) (by omega) (by omega), fun q hq => k _ _ _ (w1.trans (Wd.new w1.i hq)) (.lst upd_same ?_)⟩
    have e1 : rgV 0 n = ((List.range n.toNat).map fun (k : Nat) => ((k : Int) : Int)).map V.int := by
      unfold rgV
      rw [List.map_map, show (n - 0).toNat = n.toNat by omega]
      refine List.map_congr_left fun k _ => ?_
      show V.int (0 + (k : Int)) = V.int k
      rw [Int.zero_add]
    have e2 : ((List.range n.toNat).map fun (k : Nat) => PyData.int (k : Int)) = ((List.range n.toNat).map fun (k : Nat) => ((k : Int) : Int)).map PyData.int := by
      rw [List.map_map]
      rfl
    rw [e1, e2]
    exact DdA.ofInts _

/-! ### sorted -/
theorem each_of_vals {α : Type} {g : α → V} : ∀ {bs : List α} {us : List Value}, Vals (bs.map g) us → PySem.W.EachIs (fun u b => RelV (g b) u) us bs
  | [], _, r => by cases r; exact .nil
  | b :: bs, _, r => by
    cases r with
    | cons h t => exact .cons h (each_of_vals t)
theorem vals_of_each {α : Type} {g : α → V} : ∀ {bs : List α} {us : List Value}, PySem.W.EachIs (fun u b => RelV (g b) u) us bs → Vals (bs.map g) us
  | _, _, .nil => .nil
  | _, _, .cons h t => .cons h (vals_of_each t)
abbrev leD {α : Type} (enc : α → PyData) : α → α → Bool := PySem.W.dataLe false enc
def rSortD (K : PySem.W.Frag) : List V → Hp → VK → Prop := fun vs H Q => ∃ (a : Addr) (bs : List (V × PyData)), vs = [.ref a] ∧ SqL K H a (bs.map (·.1)) ∧ (∀ b ∈ bs, Dp K H b.1 b.2) ∧ PySem.W.AllAlike (bs.map (·.2)) ∧ PySem.W.Sortable (bs.map (·.2)) ∧ (∀ b ∈ bs, b.2.depth ≤ 40) ∧
  ∀ p, H p = none → Q (.ref p) (upd H p (.lst ((bs.mergeSort (leD (·.2))).map (·.1))))
section
variable {X : Cx}
theorem cr_sortedD (hc : X.calm = true) (hu : X.A.units + 65 < cLine) : CallR X (.builtin "sorted") (rSortD X.K) := by
  intro pins s σ H vs us Q I r ⟨a, bs, e, hs, hd, hal, hk, hde, q⟩
  subst e
  obtain ⟨its, rv, hl, hz⟩ := I.list hs
  rw [Vals.ref1 r]
  have ea := each_of_vals (g := fun b : V × PyData => b.1) rv
  have er : PySem.W.EachIs (fun v (b : V × PyData) => ∃ as, Reads s.heap v b.2 as) its bs := (PySem.W.each_mem ea).mono fun u b ⟨h1, h2⟩ => Dp.reads I b.2 b.1 u (hd b h2) h1
  have lb : bs.length ≤ sizeLine := by rw [List.length_map] at hz; exact hz
  refine PySem.W.sorted_data (R := fun u (b : V × PyData) => RelV b.1 u) (enc := fun b : V × PyData => b.2) hl.isList ea er hal hk lb (fun b hb => by have := hde b hb; omega) fun out ho h2 => ?_
  obtain ⟨ep, he⟩ := PyProof.Rows.sortedAll_at s.heap its out.toArray
  have hv := vals_of_each (g := fun b : V × PyData => b.1) h2
  refine ⟨.ref _, upd H (s.heap.objs.size + 1) (.lst ((bs.mergeSort (leD (·.2))).map (·.1))), I.laid (t' := s.toks) (fun _ _ => PyProof.Rows.sortedAll_old) (Nat.le_succ _) ⟨?_, out, ep, hv, he⟩, rfl, q _ (I.hok.fresh (Nat.le_succ _))⟩
  rw [List.length_map, List.length_mergeSort]
  exact lb
end
theorem dataLe_id {α : Type} (enc : α → PyData) (a b : α) : leD enc a b = leD id (enc a) (enc b) := rfl
theorem DdA.zip {B : Hp} : ∀ {xs : List V} {ds : List PyData}, DdA B xs ds → (List.zip xs ds).map (·.1) = xs ∧ (List.zip xs ds).map (·.2) = ds ∧ ∀ b ∈ List.zip xs ds, Dd B b.1 b.2
  | _, _, .nil => ⟨rfl, rfl, fun _ h => by cases h⟩
  | _, _, .cons h t => by
    obtain ⟨e1, e2, e3⟩ := DdA.zip t
    refine ⟨by rw [List.zip_cons_cons, List.map_cons, e1], by rw [List.zip_cons_cons, List.map_cons, e2], fun b hb => ?_⟩
    rw [List.zip_cons_cons] at hb
    rcases List.mem_cons.mp hb with e | hb
    · subst e
      exact h
    · exact e3 b hb
theorem DdA.ofZip {B : Hp} : ∀ {bs : List (V × PyData)}, (∀ b ∈ bs, Dd B b.1 b.2) → DdA B (bs.map (·.1)) (bs.map (·.2))
  | [], _ => .nil
  | b :: bs, h => .cons (h b (by simp)) (DdA.ofZip fun c hc => h c (List.mem_cons_of_mem _ hc))
theorem dc_sorted {α : Type} {enc : α → PyData} {xs : List α} {K : PySem.W.Frag} (hal : ∀ a b, PySem.W.alike (enc a) (enc b) = true) (hk : PySem.W.Sortable (xs.map enc)) (hd : ∀ a ∈ xs, (enc a).depth ≤ 40) :
    DC (rSortD K) [.list (xs.map enc)] (.list ((xs.mergeSort (leD enc)).map enc)) := fun B H vs Q e h k => by
  obtain ⟨v, rfl, hv⟩ := h.one
  cases hv with
  | @lst a ys _ h1 h2 =>
    obtain ⟨e1, e2, e3⟩ := h2.zip
    refine ⟨a, List.zip ys (xs.map enc), rfl, by rw [e1]; exact SqL.of (e _ _ h1), fun b hb => Dd.dp e _ _ (e3 b hb), ?_, by rw [e2]; exact hk, fun b hb => ?_, fun p hp => k _ _ _ (Wd.new e hp) (.lst upd_same ?_)⟩
    · rw [e2]
      exact PySem.W.AllAlike.of hal
    · have : b.2 ∈ xs.map enc := by
        rw [← e2]
        exact List.mem_map.mpr ⟨b, hb, rfl⟩
      obtain ⟨c, hc, ec⟩ := List.mem_map.mp this
      rw [← ec]
      exact hd c hc
    · have g := DdA.ofZip (bs := (List.zip ys (xs.map enc)).mergeSort (leD (·.2))) (fun b hb => e3 b (List.mem_mergeSort.mp hb))
      have s1 := PySem.W.sort_maps (r := leD (fun b : V × PyData => b.2)) (s := leD id) (fun b : V × PyData => b.2) (l := List.zip ys (xs.map enc)) fun a _ b _ => rfl
      have s2 := PySem.W.sort_maps (r := leD enc) (s := leD id) enc (l := xs) fun a _ b _ => rfl
      rw [s1, e2, ← s2] at g
      exact g.up (Ex.new (e.back hp))
end LW

/-! Dicts whose keys are pairs of a tuple of ints and an int; sorted(d.keys()). -/
namespace LW
open PySem PySem.Spec PyProof.Rows L2
open Evl (Ex)

abbrev FP := List Int × Int
def prD (p : FP) : PyData := .tuple [tI p.1, .int p.2]
def fk (p : FP) : NestedKey := .tup [.tup (p.1.map .num), .num p.2]
theorem num_inj {a b : List Int} (h : a.map NestedKey.num = b.map NestedKey.num) : a = b := by
  induction a generalizing b with
  | nil =>
    cases b with
    | nil => rfl
    | cons y b => simp at h
  | cons x a ih =>
    cases b with
    | nil => simp at h
    | cons y b =>
      simp only [List.map_cons, List.cons.injEq, NestedKey.num.injEq] at h
      rw [h.1, ih h.2]
theorem fk_inj {p q : FP} (h : fk p = fk q) : p = q := by
  unfold fk at h
  simp only [NestedKey.tup.injEq, List.cons.injEq, NestedKey.num.injEq, and_true] at h
  exact Prod.ext (num_inj h.1) h.2
theorem depth_nums : ∀ l : List Int, NestedKey.depthAll (l.map .num) = 0
  | [] => rfl
  | x :: l => by
    rw [List.map_cons, NestedKey.depthAll, depth_nums l]
    rfl
theorem fk_depth (p : FP) : (fk p).depth ≤ 8 := by
  unfold fk
  simp [NestedKey.depth, NestedKey.depthAll, depth_nums]
/-- the pair p stands at t -/
def IsP (H : Hp) (t : Addr) (p : FP) : Prop := ∃ t2, H t = some (.tup [.ref t2, .int p.2]) ∧ H t2 = some (.tup (p.1.map V.int))
theorem IsP.up {H H' : Hp} {t : Addr} {p : FP} (h : IsP H t p) (e : ∀ a xs, H a = some (.tup xs) → H' a = some (.tup xs)) : IsP H' t p := by
  obtain ⟨t2, h1, h2⟩ := h
  exact ⟨t2, e _ _ h1, e _ _ h2⟩
theorem Dd.isP {B H : Hp} {v : V} {p : FP} (h : Dd B v (prD p)) (e : Ex B H) : ∃ t, v = .ref t ∧ IsP H t p := by
  cases h with
  | @tup t xs _ h1 h2 =>
    obtain ⟨u, w, rfl, hu, hw⟩ := h2.two
    cases hw
    cases hu with
    | @tup t2 ys _ h3 h4 =>
      have ey := h4.ints
      subst ey
      exact ⟨t, rfl, t2, e _ _ h1, e _ _ h3⟩
section
variable {X : Cx} {pins : List (Addr × Obj)} {σ : L2.St} {H : Hp} {s : Shared}
theorem Inv.nk (I : Inv X pins σ H s) {t : Addr} {p : FP} (h : IsP H t p) : (nestedKind X.prog X.w).is s.heap (fk p) t := by
  obtain ⟨t2, h1, h2⟩ := h
  obtain ⟨its, rv, ⟨o, ho, hc, n, hd⟩, _⟩ := I.tuple (SqT.of h1)
  obtain ⟨its2, rv2, ⟨o2, ho2, hc2, n2, hd2⟩, _⟩ := I.tuple (SqT.of h2)
  refine ⟨?_, fk_depth p⟩
  cases rv with
  | cons r1 rr =>
    cases rr with
    | cons r2 rr =>
      cases rr
      cases r1
      obtain ⟨k, rfl⟩ := r2
      refine .tup ho hc hd (.cons (.tup ho2 hc2 hd2 ?_) (.cons (.int _ _) .nil))
      show NestedAll s.heap (p.1.map .num) its2
      clear hd2 h2
      generalize p.1 = l at rv2
      clear ho2
      induction l generalizing its2 with
      | nil => cases rv2; exact .nil
      | cons x l ih =>
        cases rv2 with
        | cons r t =>
          obtain ⟨k, rfl⟩ := r
          exact .cons (.int _ _) (ih _ t)
end

/-- the entries -/
def ndE (x : FP × Addr) : NestedKey × Addr × Value := (fk x.1, x.2, .bool true)
def NdAt (P : Program) (w : World) (a : Addr) (xs : List (FP × Addr)) (h : Heap) : Prop :=
  (a == sysModules) = false ∧ ∃ o es ep, h.get? a = some o ∧ o.ExactDict ∧ o.data = .dict es ep ∧ es.toList = (xs.map ndE).map (entryOfKey (nestedKind P w)) ∧ (xs.map (·.1)).Nodup
def ndO (P : Program) (w : World) (a : Addr) (xs : List (FP × Addr)) : HO := .ext (NdAt P w a xs)
theorem nd_ok {P : Program} {w : World} {H : Hp} {h : Heap} {a : Addr} {xs : List (FP × Addr)} (k : NdAt P w a xs h) : ObjOk P w H h a (ndO P w a xs) := by
  obtain ⟨h0, o, es, ep, ho, r⟩ := id k
  refine ⟨k, ⟨o, ho⟩, fun h1 h2 ⟨g0, o1, es1, ep1, ho1, r1⟩ e => ⟨g0, o1, es1, ep1, e _ ho1, r1⟩⟩
theorem nd_get {P : Program} {w : World} {H : Hp} {h : Heap} {a : Addr} {xs : List (FP × Addr)} (k : ObjOk P w H h a (ndO P w a xs)) : NdAt P w a xs h := k.1
theorem map_ndE_keys (xs : List (FP × Addr)) : (xs.map ndE).map (·.1) = (xs.map (·.1)).map fk := by
  rw [List.map_map, List.map_map]
  rfl
theorem nodup_fk {l : List FP} (h : l.Nodup) : (l.map fk).Nodup := by
  unfold List.Nodup
  rw [List.pairwise_map]
  exact List.Pairwise.imp (fun {a b} hn e => hn (fk_inj e)) h
theorem NdAt.of {P : Program} {w : World} {h : Heap} {a : Addr} {xs : List (FP × Addr)} (k : NdAt P w a xs h) (hk : ∀ x ∈ xs, (nestedKind P w).is h (fk x.1) x.2) : h.DictOfH (nestedKind P w) a (xs.map ndE) := by
  obtain ⟨_, o, es, ep, ho, hx, hd, he, hn⟩ := k
  refine ⟨o, es, ep, ho, hx, hd, he, fun y hy => ?_, ?_⟩
  · obtain ⟨x, hx, rfl⟩ := List.mem_map.mp hy
    exact hk x hx
  · rw [map_ndE_keys]
    exact nodup_fk hn
/-- d[p] = True -/
def putN (xs : List (FP × Addr)) (p : FP) (t : Addr) : List (FP × Addr) := if p ∈ xs.map (·.1) then xs else xs ++ [(p, t)]
theorem putN_stored (xs : List (FP × Addr)) (p : FP) (t : Addr) : storedH (xs.map ndE) (fk p) t (.bool true) = (putN xs p t).map ndE := by
  unfold putN
  by_cases h : p ∈ xs.map (·.1)
  · rw [if_pos h]
    obtain ⟨x, hx, e⟩ := List.mem_map.mp h
    have h1 : (atKey (xs.map ndE) (fk p)).isSome = true := by
      unfold atKey
      rw [Option.isSome_map, List.find?_isSome]
      exact ⟨ndE x, List.mem_map.mpr ⟨x, hx, rfl⟩, decide_eq_true (by show fk x.1 = fk p; rw [e])⟩
    unfold storedH
    rw [if_pos h1, List.map_map]
    refine List.map_congr_left fun y _ => ?_
    show putAt (fk p) (.bool true) (ndE y) = ndE y
    unfold putAt ndE
    split <;> rfl
  · rw [if_neg h]
    have h1 : atKey (xs.map ndE) (fk p) = none := by
      unfold atKey
      rw [Option.map_eq_none_iff, List.find?_eq_none]
      intro y hy hk
      obtain ⟨x, hx, rfl⟩ := List.mem_map.mp hy
      have e : fk x.1 = fk p := of_decide_eq_true hk
      exact h (List.mem_map.mpr ⟨x, hx, fk_inj e⟩)
    rw [storedH_new h1, List.map_append]
    rfl
theorem putN_nodup {xs : List (FP × Addr)} {p : FP} {t : Addr} (h : (xs.map (·.1)).Nodup) : ((putN xs p t).map (·.1)).Nodup := by
  unfold putN
  split
  · exact h
  · rename_i hn
    rw [List.map_append]
    refine List.nodup_append.mpr ⟨h, by simp, fun a ha b hb e => ?_⟩
    have : b = p := by simpa using hb
    subst e this
    exact hn ha
theorem mem_putN {xs : List (FP × Addr)} {p : FP} {t : Addr} {x : FP × Addr} (h : x ∈ putN xs p t) : x ∈ xs ∨ x = (p, t) := by
  unfold putN at h
  split at h
  · exact .inl h
  · rcases List.mem_append.mp h with h | h
    · exact .inl h
    · exact .inr (by simpa using h)

section
variable {X : Cx}
def rSetN (P : Program) (w : World) : TSet := fun o i v H Q => ∃ (a : Addr) (xs : List (FP × Addr)) (p : FP) (t : Addr), o = .ref a ∧ i = .ref t ∧ v = .bl true ∧ H a = some (ndO P w a xs) ∧ IsP H t p ∧ (∀ x ∈ xs, IsP H x.2 x.1) ∧ xs.length ≤ 1000000 ∧ Q (upd H a (ndO P w a (putN xs p t)))
theorem set_nd (hu : X.A.units + 65 < cLine) : PSet X (rSetN X.prog X.w) := by
  intro pins s σ H o i v ov iv u Q I ro ri rv ⟨a, xs, p, t, e1, e2, e3, ha, hp, hx, hl, q⟩
  subst e1 e2 e3
  cases ro
  cases ri
  cases rv
  have k := nd_get (I.hok a _ ha)
  refine wpAny_setItem_heap (knd := nestedKind X.prog X.w) (k := fk p) (by show X.A.units + 1 + 8 < cLine; omega) (Inv.nk I hp) (k.of fun x m => Inv.nk I (hx x m)) (fun h' hm hs => ?_) (by rw [List.length_map]; exact size_ok hl)
  rw [putN_stored] at hm
  obtain ⟨o', es, ep, ho', hx', hd', he', _, _⟩ := hm
  have new : NdAt X.prog X.w a (putN xs p t) h' := ⟨k.1, o', es, ep, ho', hx', hd', he', putN_nodup (let ⟨_, _, _, _, _, _, _, _, z⟩ := k; z)⟩
  exact ⟨_, I.write (by rw [ha]; trivial) (.inl rfl) (fun b w hb e => (hs.2 b hb).trans e) ⟨o', ho'⟩ (nd_ok new), q⟩
def tDNewN (P : Program) (w : World) : TE := fun _ H Q => ∀ p, H p = none → Q (.ref p) (upd H p (ndO P w p []))
theorem pe_dnewN {pos : Pos} : PE X (.Dict [] [] pos) (tDNewN X.prog X.w) := ⟨fun pins s σ H Q I h =>
  wpAny_Dict_empty ⟨.ref s.heap.objs.size, _, I.laid (a := s.heap.objs.size) (o := ndO X.prog X.w s.heap.objs.size []) (t' := s.toks) (fun _ _ q => Heap.get?_push_of_some _ q) (Nat.le_refl _)
    (nd_ok ⟨beq_eq_false_iff_ne.mpr (Ne.symm (Nat.ne_of_lt I.big)), _, #[], 0, Heap.get?_push_size _ rfl, ⟨rfl, rfl, rfl⟩, rfl, rfl, List.nodup_nil⟩), rfl, h _ (I.hok.fresh (Nat.le_refl _))⟩⟩
end

section
variable {prog : Program} {w : World} {A : Around} {E : Value → Shared → Prop} {s : Shared}
/-- sorted(what collects to values that read as data) -/
theorem sorted_by {β : Type} {enc : β → PyData} {x : Value} {Q : Value → Shared → Prop} {R : Value → β → Prop} (bs : List β)
    (hc : ∀ (R' : List Value → Shared → Prop) (E' : Value → Shared → Prop), (∀ (vs : List Value) (s1 : Shared) (bs' : List β), (∀ b o, s.heap.get? b = some o → s1.heap.get? b = some o) → s.heap.objs.size ≤ s1.heap.objs.size → s1.gens = s.gens → s1.os = s.os → bs'.Perm bs → PySem.W.EachIs R vs bs' → R' vs s1) → wpAny (model prog w) A.in1 (collect x) R' E' s)
    (hr : ∀ (h : Heap), (∀ b o, s.heap.get? b = some o → h.get? b = some o) → ∀ v b, b ∈ bs → R v b → Reads h v (enc b) [])
    (hal : ∀ b c, PySem.W.alike (enc b) (enc c) = true) (hk : ∀ b, ∃ x r, enc b = .tuple (x :: r)) (hL : bs.length ≤ sizeLine) (hu : ∀ b ∈ bs, A.units + 4 + (enc b).depth < cLine)
    (hQ : ∀ (s' : Shared) (p : Addr) (out : List Value) (c : Nat) (bs' : List β), (∀ b o, s.heap.get? b = some o → s'.heap.get? b = some o) → s'.gens = s.gens → s'.os = s.os → s.heap.objs.size ≤ p → s'.heap.get? p = some (seqObj "list" out.toArray c) → bs'.Perm bs → PySem.W.EachIs R out (bs'.mergeSort (leD enc)) → Q (.ref p) s') :
    wpAny (model prog w) A (call (.builtin "sorted") [x]) Q E s := by
  refine Calls.call_function_entry PyProof.Rows.kind_sorted PyProof.Rows.plain_sorted PyProof.Rows.entry_sorted (PyProof.Rows.args_sorted1 _) ?_; unfold Builtin.«sorted»; refine wpAny_bind (m := checkCount "sorted" 1 1 _) (wpAny_pure ?_)
  refine wpAny_bind (hc _ _ fun vs s1 bs' k1 sz g1 o1 pm ea => ?_)
  have hl : vs.length = bs.length := ea.length.trans pm.length_eq
  refine wpAny_bind (wpAny_newList ?_ (by rw [hl]; exact hL))
  have atL : (s1.heap.push (seqObj "list" vs.toArray 0)).get? s1.heap.objs.size = some (seqObj "list" vs.toArray 0) := Heap.get?_push_size _ rfl
  refine wpAny_bind (wpAny_holding (PySem.W.list_sort_data (s := { s1 with heap := s1.heap.push (seqObj "list" vs.toArray 0) }) atL ea ((PySem.W.each_mem ea).mono fun v b ⟨h1, h2⟩ => ⟨[], hr _ (fun c u e => Heap.get?_push_of_some _ (k1 c u e)) v b (pm.mem_iff.mp h2) h1, by simp⟩)
    (PySem.W.AllAlike.of hal) (PySem.W.Sortable.tuples hk) (by rw [pm.length_eq]; exact hL) (fun b hb => by
      have := hu b (pm.mem_iff.mp hb)
      show A.units + 1 + 1 + (enc b).depth < cLine
      omega) fun out ho h2 => ?_))
  obtain ⟨c, hcx⟩ := PyProof.Rows.sortedHeap_at (vs := vs) (out := out.toArray) atL
  refine wpAny_pure ⟨_, rfl, hQ _ s1.heap.objs.size out c bs' (fun b u e => ?_) g1 o1 sz hcx pm h2⟩
  have q := k1 b u e
  have hlt := Heap.lt_size q
  show (sortedHeap (s1.heap.push (seqObj "list" vs.toArray 0)) s1.heap.objs.size vs out.toArray).get? b = some u
  rw [PyProof.Rows.sortedHeap_old (Nat.ne_of_lt hlt) (by rw [PyProof.Rows.size_push']; exact Nat.lt_succ_of_lt hlt)]
  exact Heap.get?_push_of_some _ q
end

theorem alike_prD (p q : FP) : PySem.W.alike (prD p) (prD q) = true := by
  unfold prD
  have e : PySem.W.alike (tI p.1) (tI q.1) = true := by
    show PySem.W.alike (.tuple _) (.tuple _) = true
    rw [PySem.W.alike]
    exact PySem.W.alike_ints _ _
  simp only [PySem.W.alike, PySem.W.alikeAll, e, Bool.and_true]
  exact e
theorem depth_prD (p : FP) : (prD p).depth ≤ 2 := by
  unfold prD
  simp [PyData.depth, PyData.depthAll, PySem.W.depth_ints]
section
variable {X : Cx} {pins : List (Addr × Obj)} {σ : L2.St} {H : Hp} {s : Shared}
theorem readsAll_ints {h : Heap} : ∀ {l : List Int} {us : List Value}, Vals (l.map V.int) us → ReadsAll h us (l.map .int) []
  | [], _, r => by cases r; exact .nil
  | x :: l, _, r => by
    cases r with
    | cons h1 t =>
      obtain ⟨k, rfl⟩ := h1
      exact ReadsAll.cons (as := []) (bs := []) (.int _ _) (readsAll_ints t)
theorem Inv.readsP (I : Inv X pins σ H s) {t : Addr} {p : FP} (h : IsP H t p) {h' : Heap} (k : ∀ b o, s.heap.get? b = some o → h'.get? b = some o) : Reads h' (.ref t) (prD p) [] := by
  obtain ⟨t2, h1, h2⟩ := h
  obtain ⟨its, rv, ⟨o, ho, hc, n, hd⟩, _⟩ := I.tuple (SqT.of h1)
  obtain ⟨its2, rv2, ⟨o2, ho2, hc2, n2, hd2⟩, _⟩ := I.tuple (SqT.of h2)
  cases rv with
  | cons r1 rr =>
    cases rr with
    | cons r2 rr =>
      cases rr
      cases r1
      obtain ⟨z, rfl⟩ := r2
      exact Reads.tuple (k _ _ ho) hc hd (ReadsAll.cons (as := []) (bs := []) (Reads.tuple (k _ _ ho2) hc2 hd2 (readsAll_ints rv2)) (ReadsAll.cons (as := []) (bs := []) (.int _ _) .nil))
end


/-! ### the order of pairs -/
theorem eqvAll_ints : ∀ a b : List Int, PyData.eqvAll (a.map .int) (b.map .int) = decide (a = b)
  | [], [] => rfl
  | [], _ :: _ => by simp [PyData.eqvAll]
  | _ :: _, [] => by simp [PyData.eqvAll]
  | x :: a, y :: b => by
    rw [List.map_cons, List.map_cons, PyData.eqvAll, eqvAll_ints a b]
    by_cases h : x = y <;> by_cases g : a = b <;> simp [PyData.eqv, h, g]
theorem eqv_tI (a b : List Int) : PyData.eqv (tI a) (tI b) = decide (a = b) := by
  rw [PyData.eqv]
  exact eqvAll_ints a b
theorem dataLt_tI (a b : List Int) : PySem.W.dataLt (tI a) (tI b) = decide (a < b) := by
  rw [PySem.W.dataLt_tuple]
  exact PySem.W.dataLt_ints a b
theorem alike_tI (a b : List Int) : PySem.W.alike (tI a) (tI b) = true := by
  show PySem.W.alike (.tuple _) (.tuple _) = true
  rw [PySem.W.alike]
  exact PySem.W.alike_ints _ _
def ltP (p q : FP) : Prop := p.1 < q.1 ∨ (p.1 = q.1 ∧ p.2 < q.2)
theorem dataLt_prD (p q : FP) : PySem.W.dataLt (prD p) (prD q) = true ↔ ltP p q := by
  unfold prD ltP
  rw [PySem.W.dataLt_pair (alike_tI _ _) (by simp [PySem.W.alike]), eqv_tI, dataLt_tI, PySem.W.dataLt_int]
  by_cases h : p.1 = q.1
  · have hn : ¬ q.1 < q.1 := List.lt_irrefl _
    rw [h]
    simp only [decide_true, if_true, hn, false_or, true_and]
    by_cases g : p.2 = q.2
    · rw [g]
      simp [PyData.eqv]
    · have : PyData.eqv (.int p.2) (.int q.2) = false := by simp [PyData.eqv, g]
      rw [this]
      simp
  · simp [h]
theorem leD_prD (p q : FP) : leD prD p q = true ↔ ¬ ltP q p := by
  show (!PySem.W.dataLt (prD q) (prD p)) = true ↔ _
  rw [Bool.not_eq_true', ← dataLt_prD]
  simp
theorem ltP_trans {p q r : FP} (h1 : ltP p q) (h2 : ltP q r) : ltP p r := by
  rcases h1 with h1 | ⟨e1, h1⟩ <;> rcases h2 with h2 | ⟨e2, h2⟩
  · exact .inl (List.lt_trans h1 h2)
  · exact .inl (by rw [← e2]; exact h1)
  · exact .inl (by rw [e1]; exact h2)
  · exact .inr ⟨e1.trans e2, by omega⟩
theorem ltP_tri (p q : FP) : ltP p q ∨ p = q ∨ ltP q p := by
  rcases Std.lt_trichotomy p.1 q.1 with h | h | h
  · exact .inl (.inl h)
  · rcases Int.lt_trichotomy p.2 q.2 with g | g | g
    · exact .inl (.inr ⟨h, g⟩)
    · exact .inr (.inl (Prod.ext h g))
    · exact .inr (.inr (.inr ⟨h.symm, g⟩))
  · exact .inr (.inr (.inl h))
theorem ltP_irrefl (p : FP) : ¬ ltP p p := by
  rintro (h | ⟨_, h⟩)
  · exact List.lt_irrefl _ h
  · omega
theorem leD_total {α : Type} (enc : α → PyData) (a b : α) : (leD enc a b || leD enc b a) = true := by
  have h : leD enc a b = true ∨ leD enc b a = true := (PySem.W.sortLe_total _ _ _).total a b
  rcases h with h | h <;> rw [h] <;> simp
theorem leD_trans {α : Type} (enc : α → PyData) (a b c : α) (h1 : leD enc a b = true) (h2 : leD enc b c = true) : leD enc a c = true := (PySem.W.sortLe_total _ _ _).trans a b c h1 h2
theorem sort_perm {α : Type} {enc : α → PyData} (anti : ∀ a b, leD enc a b = true → leD enc b a = true → a = b) {l m : List α} (h : l.Perm m) : l.mergeSort (leD enc) = m.mergeSort (leD enc) :=
  List.Perm.eq_of_pairwise (le := fun a b => leD enc a b = true) (fun a b _ _ => anti a b) (List.pairwise_mergeSort (leD_trans enc) (leD_total enc) l) (List.pairwise_mergeSort (leD_trans enc) (leD_total enc) m)
    ((List.mergeSort_perm l _).trans (h.trans (List.mergeSort_perm m _).symm))
/-- sorted lists with the same items -/
theorem sorted_same {α : Type} {enc : α → PyData} (anti : ∀ a b, leD enc a b = true → leD enc b a = true → a = b) {l m : List α} (h : l.Perm m) (hl : l.Pairwise fun a b => leD enc a b = true) (hm : m.Pairwise fun a b => leD enc a b = true) : l = m :=
  List.Perm.eq_of_pairwise (le := fun a b => leD enc a b = true) (fun a b _ _ => anti a b) hl hm h
theorem anti_prD (p q : FP) (h1 : leD prD p q = true) (h2 : leD prD q p = true) : p = q := by
  rw [leD_prD] at h1 h2
  rcases ltP_tri p q with h | h | h
  · exact absurd h h2
  · exact h
  · exact absurd h h1

/-! ### the end of sorted(..) -/
theorem sort_finish {X : Cx} {pins : List (Addr × Obj)} {σ : L2.St} {H : Hp} {s : Shared} {Q : VK} (I : L2.Inv X pins σ H s) (hc : X.calm = true) (hu : X.A.units + 65 < cLine) {β : Type} {R : Value → β → Prop} (enc : β → PyData) (bs : List β) (g : β → V) {x : Value} (hR : ∀ u b, R u b → RelV (g b) u)
    (hcol : ∀ (R' : List Value → Shared → Prop) (E' : Value → Shared → Prop), (∀ (vs : List Value) (s1 : Shared) (bs' : List β), (∀ b o, s.heap.get? b = some o → s1.heap.get? b = some o) → s.heap.objs.size ≤ s1.heap.objs.size → s1.gens = s.gens → s1.os = s.os → bs'.Perm bs → PySem.W.EachIs R vs bs' → R' vs s1) → wpAny (model X.prog X.w) X.A.in1 (collect x) R' E' s)
    (hr : ∀ (h : Heap), (∀ b o, s.heap.get? b = some o → h.get? b = some o) → ∀ v b, b ∈ bs → R v b → Reads h v (enc b) [])
    (hal : ∀ b c, PySem.W.alike (enc b) (enc c) = true) (hk : ∀ b, ∃ x r, enc b = .tuple (x :: r)) (hL : bs.length ≤ sizeLine) (hdep : ∀ b ∈ bs, (enc b).depth ≤ 2)
    (q : ∀ (ys : List β) p, ys.Perm bs → H p = none → Q (.ref p) (upd H p (.lst ((ys.mergeSort (leD enc)).map g)))) : wpAny (model X.prog X.w) X.A (call (.builtin "sorted") [x]) (EP X pins σ Q) X.xe s := by
  refine sorted_by bs hcol hr hal hk hL (fun b hb => by have := hdep b hb; omega) fun s' p out c bs' k gg oo hp hg pm ea => ?_
  have free : H p = none := I.hok.fresh hp
  have hv : Vals ((bs'.mergeSort (leD enc)).map g) out := vals_of_each (ea.mono fun u b h => hR u b h)
  have hlen : ((bs'.mergeSort (leD enc)).map g).length ≤ sizeLine := by rw [List.length_map, List.length_mergeSort, pm.length_eq]; exact hL
  have J : L2.Inv X pins σ (upd H p (.lst ((bs'.mergeSort (leD enc)).map g))) { s with heap := s'.heap, gens := s'.gens, drawn := s'.drawn, toks := s'.toks } :=
    I.call (ch := []) (Un.laid k hp free) (I.hok.laid k hp ⟨hlen, out, c, hv, hg⟩) (by rw [gg]; exact I.bare) (fun _ z => nomatch z)
  have whole : s' = { s with heap := s'.heap, gens := s'.gens, drawn := s'.drawn, toks := s'.toks } := by
    cases s'
    cases s
    cases oo
    rfl
  rw [whole]
  exact ⟨.ref p, _, J, rfl, q bs' p pm free⟩
theorem keys_each {P : Program} {w : World} {es : Array DictEntry} {xs : List (FP × Addr)} {acc : Array Value} (hes : es.toList = (xs.map ndE).map (entryOfKey (nestedKind P w))) (it : ItemsOf (fun i v => ∃ hi : i < es.size, v = es[i].key) acc es.size) :
    PySem.W.EachIs (fun u (x : FP × Addr) => u = .ref x.2) acc.toList xs := by
  have e : acc.toList = xs.map fun x => Value.ref x.2 := by
    apply List.ext_getElem?
    intro i
    rw [List.getElem?_map]
    cases h : acc.toList[i]? with
    | some v =>
      obtain ⟨hi, ev⟩ := it.2 i v (by rw [← Array.getElem?_toList]; exact h)
      have he : es.toList[i]? = some es[i] := by rw [Array.getElem?_toList]; simp [hi]
      rw [hes, List.getElem?_map, List.getElem?_map] at he
      cases hx : xs[i]? with
      | none => rw [hx] at he; cases he
      | some x =>
        rw [hx] at he
        have he := Option.some.inj he
        rw [ev, ← he]
        rfl
    | none =>
      have hl : acc.toList.length ≤ i := List.getElem?_eq_none_iff.mp h
      have h1 : es.toList.length = xs.length := by rw [hes, List.length_map, List.length_map]
      rw [Array.length_toList] at hl h1
      rw [it.1] at hl
      rw [List.getElem?_eq_none (by omega)]
      rfl
  rw [e]
  clear e hes it
  induction xs with
  | nil => exact .nil
  | cons x xs ih => exact .cons rfl ih

/-! ### sorted(d.keys()) -/
def tSortKeys (P : Program) (w : World) (to : TE) : TE := fun σ H Q => to σ H fun x H1 => ∃ (a : Addr) (xs : List (FP × Addr)), x = .ref a ∧ H1 a = some (ndO P w a xs) ∧ (∀ x ∈ xs, IsP H1 x.2 x.1) ∧ xs.length ≤ 1000000 ∧
  ∀ (ys : List (FP × Addr)) p, ys.Perm xs → H1 p = none → Q (.ref p) (upd H1 p (.lst ((ys.mergeSort (leD fun x => prD x.1)).map fun x => V.ref x.2)))
theorem pe_sortedKeys {X : Cx} {o : Expr} {to : TE} {p pos apos cpos : Pos} (hm : X.mg "sorted" = none) (hc : X.calm = true) (hu : X.A.units + 65 < cLine) (ho : PE X o to) (hg : Gl X "sorted" := by rfl)
    (hbase : attributeBase o "keys" X.env (eval o X.env) = eval o X.env := by rfl) (hline : (apos.endLine == cpos.line) = true := by rfl) :
    PE X (.Call (.Name "sorted" p) [.Call (.Attribute o "keys" apos) [] [] cpos] [] pos) (tSortKeys X.prog X.w to) := by
  refine ⟨fun pins s σ H Q I h => ?_⟩
  have bs : bootBuiltins "sorted" = some (.builtin "sorted") := by decide +kernel
  refine Call_ (ld_blt I hg hm bs ?_)
  refine PyProof.Rows.callWith_builtin1 (PyProof.Rows.args_cons ?_ rfl) rfl rfl
  refine wpAny_Call_method (T := "dict") (id := "dict.keys") hbase rfl hline F.plainAttrs_dict F.slot_dict_keys F.type_dict_keys (thn (ho.run pins s σ H _ I h) fun u s1 ⟨x, H1, I1, rx, a, xs, ex, ha, hx, hl, q⟩ => ?_)
  subst ex
  cases rx
  have k := nd_get (I1.hok a _ ha)
  obtain ⟨k0, od, es, ep, hod, hex, hdd, hes, hnd⟩ := id k
  refine ⟨⟨od, hod, hex.1⟩, fun b e => by cases e; exact ⟨od, hod, hex.2.1⟩, ?_⟩
  show wpAny _ _ (callWith cpos (.builtin "dict.keys") [.ref a] [] []) _ X.xe s1
  refine method_meetsIn F.slot_dict_keys F.entry_dict_keys rfl (PySem.evalArgs_none ⟨rfl, ⟨od, hod, hex.1⟩, F.args_dict_keys_1 _, _, PySem.meets_dict_keys_raw a k0, ⟨es, ep, od, hod, hex, hdd⟩, ?_⟩)
  show wpAny _ _ _ _ _ _
  refine PyProof.Rows.args_nil ?_
  have I2 : L2.Inv X pins σ H1 { s1 with heap := s1.heap.push { cls := .type "dict_keys", data := .fields #[.ref a] } } := I1.kept (t' := s1.toks) fun b ob q => Heap.get?_push_of_some _ q
  exact sort_finish I2 hc hu (R := fun u (x : FP × Addr) => u = .ref x.2) (fun x => prD x.1) xs (fun x => V.ref x.2) (fun u x e => by rw [e]; rfl)
    (fun R' E' k => PySem.W.kdu_collect (prog := X.prog) (w := X.w) (A := X.A.in1) (PySem.KdlSrc.rawKeys (r := s1.heap.objs.size) (d := a) (es := es) (ep := ep)) (I2.ok.hd hc)
      ⟨⟨_, Heap.get?_push_size _ rfl, rfl, rfl⟩, ⟨od, Heap.get?_push_of_some _ hod, hex, hdd⟩⟩ (by
        rw [← Array.length_toList, hes, List.length_map, List.length_map]
        exact size_ok hl) fun h' tk acc k1 it => k acc.toList _ xs k1 (by
          have := Heap.lt_size (k1 _ _ (Heap.get?_push_size _ rfl))
          rw [Heap.size_push]
          exact this) rfl rfl (List.Perm.refl _) (keys_each hes it))
    (fun h' k v b hb e => by
      rw [e]
      exact Inv.readsP I2 (hx b hb) k)
    (fun b c => alike_prD _ _) (fun b => ⟨_, _, rfl⟩) (size_ok hl) (fun b _ => depth_prD _) q
theorem de_sortKeys {env : EnvT} {j : Nat} {a : Addr} {ps : List FP} {P : Program} {w : World} (hn : ps.length ≤ 1000000) (h : env[j]? = some (.own a (fun B o => ∃ xs : List (FP × Addr), o = ndO P w a xs ∧ xs.map (·.1) = ps ∧ ∀ x ∈ xs, Dd B (.ref x.2) (prD x.1)))) (nd : ps.Nodup) :
    DE (tSortKeys P w (tVar j)) env (.list ((ps.mergeSort (leD prD)).map prD)) := fun B σ H Q e o k => by
  obtain ⟨x, q1, q2, q3, ⟨u, q4, xs, q5, q6, q7⟩, _⟩ := o.at_ j _ h
  subst q2 q5
  refine ⟨_, q1, a, xs, rfl, q4, fun x hx => ?_, by rw [← q6, List.length_map] at hn; exact hn, fun ys p pm hp => k _ _ _ (Wd.new e hp) (.lst upd_same ?_)⟩
  · obtain ⟨t, et, ht⟩ := (q7 x hx).isP e
    cases et
    exact ht
  · have g : DdA B ((ys.mergeSort (leD fun x => prD x.1)).map fun x => V.ref x.2) ((ys.mergeSort (leD fun x => prD x.1)).map fun x => prD x.1) := by
      have gen : ∀ l : List (FP × Addr), (∀ x ∈ l, Dd B (.ref x.2) (prD x.1)) → DdA B (l.map fun x => V.ref x.2) (l.map fun x => prD x.1) := by
        intro l
        induction l with
        | nil => intro _; exact .nil
        | cons x l ih => intro hl; exact .cons (hl x (by simp)) (ih fun y hy => hl y (List.mem_cons_of_mem _ hy))
      exact gen _ fun x hx => q7 x (pm.mem_iff.mp (List.mem_mergeSort.mp hx))
    have s1 := PySem.W.sort_maps (r := leD (fun x : FP × Addr => prD x.1)) (s := leD prD) (fun x : FP × Addr => x.1) (l := ys) fun a _ b _ => rfl
    have s2 : (ys.map (·.1)).mergeSort (leD prD) = ps.mergeSort (leD prD) := sort_perm anti_prD (by rw [← q6]; exact pm.map _)
    have s3 : ((ys.mergeSort (leD fun x => prD x.1)).map fun x => prD x.1) = (ps.mergeSort (leD prD)).map prD := by
      rw [← s2, ← s1, List.map_map]
      rfl
    rw [s3] at g
    exact g.up (Ex.new (e.back hp))
end LW

/-! Statements over dicts of pairs; shapes of data; small facts for walks. -/
namespace LW
open PySem PySem.Spec PyProof.Rows L2
open Evl (Ex)

def dctP (P : Program) (w : World) (a : Addr) (ps : List FP) : OwnP := fun B o => ∃ xs : List (FP × Addr), o = ndO P w a xs ∧ xs.map (·.1) = ps ∧ ∀ x ∈ xs, Dd B (.ref x.2) (prD x.1)
theorem dctP.mon (P : Program) (w : World) (a : Addr) (ps : List FP) : MonP (dctP P w a ps) := fun B B' o e ⟨xs, h1, h2, h3⟩ => ⟨xs, h1, h2, fun x hx => (h3 x hx).up e⟩
def putP (ps : List FP) (p : FP) : List FP := if p ∈ ps then ps else ps ++ [p]
section
variable {b : Bs} {env : EnvT} {te ta tb : TE} {u : TS} {D : Ends} {d : PyData} {P : Program} {w : World}
/-- size, found = (e, {}) -/
theorem go_parN {i j : Nat} (h : DE te env d) (k : ∀ a, a ∉ owned env → Go b ((env.set i (.dat d)).set j (.own a (dctP P w a []))) D.nx) : Go b env (tPar i j (tCons te (tCons (tDNewN P w) tNil)) D) := fun σ H ⟨B, e1, w1, o, f⟩ =>
  h B σ H _ w1.i o fun v B' H' w2 d' p hp => by
    have w3 := Wd.side (o := ndO P w p []) w2.i hp
    have np : p ∉ owned env := fun hm => by
      obtain ⟨_, z, hz⟩ := (o.wd w2).own_at hm
      rw [hp] at hz
      cases hz
    refine ⟨v, .ref p, rfl, k p np _ _ ⟨B', e1.trans w2.b, (w1.trans w2).trans w3, ((o.wd w2).wd w3 |>.setD d').set ⟨rfl, w2.i.back hp, ⟨_, upd_same, [], rfl, rfl, fun _ hx => by cases hx⟩, dctP.mon P w p []⟩ fun a ha => ?_, fun a ha => ?_⟩⟩
    · have e : a = p := by simpa [ownerOf] using ha
      subst e
      left
      intro hm
      rcases owned_set_mem hm with z | z
      · cases z
      · exact np z
    · rcases owned_set_mem ha with z | z
      · have e : a = p := by simpa [ownerOf] using z
        subst e
        exact (w1.trans w2).h.back hp
      · rcases owned_set_mem z with z | z
        · cases z
        · exact f a z
theorem gs_parN {i j : Nat} (h : DE te env d) (k : ∀ a, a ∉ owned env → Go b ((env.set i (.dat d)).set j (.own a (dctP P w a []))) (u D)) : Go b env (tSeq (tPar i j (tCons te (tCons (tDNewN P w) tNil))) u D) := go_parN (D := { D with nx := u D }) h k
/-- found[x, y] = True -/
theorem go_dset {j : Nat} {a : Addr} {ps : List FP} {x : List Int} {y : Int} (hj : env[j]? = some (.own a (dctP P w a ps))) (hx : DE ta env (tI x)) (hy : DE tb env (.int y)) (hl : ps.length ≤ 1000000)
    (k : Go b (env.set j (.own a (dctP P w a (putP ps (x, y))))) D.nx) : Go b env (tAsg (tC (.bl true)) (gSub (tVar j) (tTup (tCons ta (tCons tb tNil))) (rSetN P w)) D) := fun σ H ⟨B, e1, w1, o, f⟩ => by
  obtain ⟨z, q1, q2, q3, ⟨q, q4, xs, q5, q6, q7⟩, _⟩ := o.at_ j _ hj
  subst q2 q5
  have ht : DE (tTup (tCons ta (tCons tb tNil))) env (prD (x, y)) := de_tup (da_cons hx (da_cons hy da_nil)) (by show 2 ≤ _; decide)
  refine ⟨_, q1, ht B σ H _ w1.i o fun v B' H' w2 d' => ?_⟩
  obtain ⟨t, rfl, hp⟩ := d'.isP w2.i
  refine ⟨a, xs, (x, y), t, rfl, rfl, rfl, w2.h _ _ q4, hp, fun c hc => ?_, by rw [← q6, List.length_map] at hl; exact hl, ?_⟩
  · obtain ⟨t', et, ht'⟩ := ((q7 c hc).up w2.b).isP w2.i
    cases et
    exact ht'
  · refine k _ _ (SS.mut (e1.trans w2.b) (w1.trans w2) (o.wd w2) f hj ⟨_, rfl, ?_, fun c hc => ?_⟩ (dctP.mon P w a _))
    · unfold putN putP
      rw [q6]
      split
      · exact q6
      · rw [List.map_append, q6]
        rfl
    · rcases mem_putN hc with hc | hc
      · exact (q7 c hc).up w2.b
      · rw [hc]
        exact d'
theorem gs_dset {j : Nat} {a : Addr} {ps : List FP} {x : List Int} {y : Int} (hj : env[j]? = some (.own a (dctP P w a ps))) (hx : DE ta env (tI x)) (hy : DE tb env (.int y)) (hl : ps.length ≤ 1000000)
    (k : Go b (env.set j (.own a (dctP P w a (putP ps (x, y))))) (u D)) : Go b env (tSeq (tAsg (tC (.bl true)) (gSub (tVar j) (tTup (tCons ta (tCons tb tNil))) (rSetN P w))) u D) := go_dset (D := { D with nx := u D }) hj hx hy hl k
theorem putP_nodup {ps : List FP} {p : FP} (h : ps.Nodup) : (putP ps p).Nodup := by
  unfold putP
  split
  · exact h
  · rename_i hn
    refine List.nodup_append.mpr ⟨h, by simp, fun a ha b hb e => ?_⟩
    have h1 : b = p := by simpa using hb
    rw [e, h1] at ha
    exact hn ha
theorem mem_putP {ps : List FP} {p q : FP} : q ∈ putP ps p ↔ q ∈ ps ∨ q = p := by
  unfold putP
  split
  · rename_i h
    exact ⟨.inl, fun z => z.elim id fun e => by rw [e]; exact h⟩
  · simp
theorem putP_len (ps : List FP) (p : FP) : (putP ps p).length ≤ ps.length + 1 := by
  unfold putP
  split
  · omega
  · simp
end

/-! ### shaped -/
theorem lay_ints : ∀ l : List Int, PyData.canLayAll0 (l.map .int) = true
  | [] => rfl
  | x :: l => by rw [List.map_cons, PyData.canLayAll0, lay_ints l]; rfl
theorem lay_map {α : Type} {enc : α → PyData} (h : ∀ a, (enc a).canLay0 = true) : ∀ l : List α, PyData.canLayAll0 (l.map enc) = true
  | [] => rfl
  | x :: l => by rw [List.map_cons, PyData.canLayAll0, lay_map h l, h]; rfl
theorem depth_map {α : Type} {enc : α → PyData} {n : Nat} (h : ∀ a, (enc a).depth ≤ n) : ∀ l : List α, PyData.depthAll (l.map enc) ≤ n
  | [] => Nat.zero_le _
  | x :: l => by
    rw [List.map_cons, PyData.depthAll]
    exact Nat.max_le.mpr ⟨h x, depth_map h l⟩
theorem lay_tI (l : List Int) : (tI l).canLay0 = true := by rw [PyData.canLay0]; exact lay_ints l
theorem lay_prD (p : FP) : (prD p).canLay0 = true := by
  unfold prD
  simp [PyData.canLay0, PyData.canLayAll0, lay_ints]
theorem depth_tI (l : List Int) : (tI l).depth ≤ 1 := by
  rw [PyData.depth, PySem.W.depth_ints]
  exact Nat.le_refl _
theorem shaped_of {d : PyData} (h : d.canLay0 = true) (hd : d.depth ≤ 64) : SeqAt.shaped d = true := by
  unfold SeqAt.shaped
  rw [h, decide_eq_true hd]
  rfl
theorem shaped_tI (l : List Int) : SeqAt.shaped (tI l) = true := shaped_of (lay_tI l) (Nat.le_trans (depth_tI l) (by decide))
theorem shaped_lI (l : List Int) : SeqAt.shaped (lI l) = true := shaped_of (by rw [PyData.canLay0]; exact lay_ints l) (by rw [PyData.depth, PySem.W.depth_ints]; decide)
theorem shaped_prD (p : FP) : SeqAt.shaped (prD p) = true := shaped_of (lay_prD p) (Nat.le_trans (depth_prD p) (by decide))
theorem shaped_list {α : Type} {enc : α → PyData} {l : List α} (h : ∀ a, (enc a).canLay0 = true) (hd : ∀ a, (enc a).depth ≤ 4) : SeqAt.shaped (.list (l.map enc)) = true :=
  shaped_of (by rw [PyData.canLay0]; exact lay_map h l) (by rw [PyData.depth]; have := depth_map hd l; omega)
theorem shaped_tuple {α : Type} {enc : α → PyData} {l : List α} (h : ∀ a, (enc a).canLay0 = true) (hd : ∀ a, (enc a).depth ≤ 4) : SeqAt.shaped (.tuple (l.map enc)) = true :=
  shaped_of (by rw [PyData.canLay0]; exact lay_map h l) (by rw [PyData.depth]; have := depth_map hd l; omega)
theorem eqv_prD (p q : FP) : PyData.eqv (prD p) (prD q) = decide (p = q) := by
  unfold prD
  rw [PyData.eqv, PyData.eqvAll, PyData.eqvAll, PyData.eqvAll, eqv_tI]
  by_cases h : p.1 = q.1 <;> by_cases g : p.2 = q.2 <;> simp [PyData.eqv, h, g, Prod.ext_iff]
theorem eqvAll_map {α : Type} [DecidableEq α] {enc : α → PyData} (h : ∀ a b, PyData.eqv (enc a) (enc b) = decide (a = b)) : ∀ l m : List α, PyData.eqvAll (l.map enc) (m.map enc) = decide (l = m)
  | [], [] => rfl
  | [], _ :: _ => by simp [PyData.eqvAll]
  | _ :: _, [] => by simp [PyData.eqvAll]
  | x :: a, y :: b => by
    rw [List.map_cons, List.map_cons, PyData.eqvAll, eqvAll_map h a b, h]
    by_cases g : x = y <;> by_cases k : a = b <;> simp [g, k]
theorem eqv_list {α : Type} [DecidableEq α] {enc : α → PyData} (h : ∀ a b, PyData.eqv (enc a) (enc b) = decide (a = b)) (l m : List α) : PyData.eqv (.list (l.map enc)) (.list (m.map enc)) = decide (l = m) := by
  rw [PyData.eqv]
  exact eqvAll_map h l m
theorem any_eqv {α : Type} [DecidableEq α] {enc : α → PyData} (h : ∀ a b, PyData.eqv (enc a) (enc b) = decide (a = b)) (l : List α) (x : α) : ((l.map enc).any fun z => PyData.eqv z (enc x)) = decide (x ∈ l) := by
  induction l with
  | nil => simp
  | cons y l ih =>
    rw [List.map_cons, List.any_cons, ih, h]
    by_cases g : y = x <;> by_cases k : x ∈ l <;> simp [g, k, eq_comm] <;> (intro e; exact absurd e.symm g)
/-- a list of filtered items is empty: [..] == [] -/
theorem eqv_nil (ds : List PyData) : PyData.eqv (.list ds) (.list []) = ds.isEmpty := by
  rw [PyData.eqv]
  cases ds <;> simp [PyData.eqvAll]
theorem shaped_nil : SeqAt.shaped (.list []) = true := rfl
end LW

/-! The row that the law draws from: a list that changes, known by its form alone; values of which only a property is known. -/
namespace LW
open PySem PySem.Spec PyProof.Rows L2
open Evl (Ex)

theorem SqL.ex {K : PySem.W.Frag} {B H : Hp} {a : Addr} {xs : List V} (h : SqL K B a xs) (e : Ex B H) : SqL K H a xs := Evl.ex_l e h
/-! ### the row -/
abbrev rowL (sc : Addr) (i s t : Int) : HO := .lst [.ref sc, .int i, .int s, .int t]
def RowAt (r sc : Addr) (h : Heap) : Prop := ∃ (i s t : Int) (its : List Value) (n : Nat), 0 ≤ i ∧ Vals [.ref sc, .int i, .int s, .int t] its ∧ h.get? r = some { cls := .type "list", data := .seq its.toArray n }
def rowO (r sc : Addr) : HO := .ext (RowAt r sc)
theorem row_to {P : Program} {w : World} {H H' : Hp} {h : Heap} {r sc : Addr} {i s t : Int} (hi : 0 ≤ i) (x : ObjOk P w H h r (rowL sc i s t)) : ObjOk P w H' h r (rowO r sc) := by
  obtain ⟨_, its, n, v, e⟩ := x
  exact ⟨⟨i, s, t, its, n, hi, v, e⟩, ⟨_, e⟩, fun h1 h2 ⟨i, s, t, its, n, hi, v, e⟩ k => ⟨i, s, t, its, n, hi, v, k _ e⟩⟩
theorem row_of {P : Program} {w : World} {H : Hp} {h : Heap} {r sc : Addr} (x : ObjOk P w H h r (rowO r sc)) : ∃ i s t, 0 ≤ i ∧ ∀ H', ObjOk P w H' h r (rowL sc i s t) := by
  obtain ⟨⟨i, s, t, its, n, hi, v, e⟩, _, _⟩ := x
  exact ⟨i, s, t, hi, fun H' => ⟨by show 4 ≤ sizeLine; decide, its, n, v, e⟩⟩
/-- a promise over the row's content is one over its form -/
theorem FnOk.swap {P : Program} {w : World} {K : PySem.W.Frag} {mg : Str → Option Value} {base : Heap} {k : Nat} {f : Addr} {fd : FuncData} {ps : List Str} {sp sp' : Sp} (F : FnOk P w K mg base CX0 k f fd ps sp)
    (len : ∀ vs H Q E, sp' vs H Q E → vs.length = ps.length)
    (h : ∀ vs H Q E, sp' vs H Q E → ∃ r sc, H r = some (rowO r sc) ∧ ∀ i s t, 0 ≤ i → sp vs (upd H r (rowL sc i s t)) (fun v H' => ∃ i' s' t', 0 ≤ i' ∧ H' r = some (rowL sc i' s' t') ∧ Q v (upd H' r (rowO r sc))) E) : FnOk P w K mg base CX0 k f fd ps sp' := by
  refine ⟨len, fun A outer s H args us vs Q E hr he hb hv hs => ?_⟩
  obtain ⟨r, sc, hr0, hK⟩ := h vs H Q E hs
  obtain ⟨i, st, t, hi, ho⟩ := row_of (he.hok r _ hr0)
  obtain ⟨_, its, n, rv, get⟩ := id (ho (upd H r (rowL sc i st t)))
  have mu : Mut (H r) := by
    rw [hr0]
    trivial
  have keepNone : ∀ b, H b = none → upd H r (rowL sc i st t) b = none := fun b hn => by
    rw [upd_ne]
    · exact hn
    · rintro rfl
      rw [hr0] at hn
      cases hn
  have e1 : Env0 P w K mg base A outer s (upd H r (rowL sc i st t)) := ⟨he.frames, he.mod, fun b o e => ⟨(he.bs b o e).1, keepNone b (he.bs b o e).2⟩, he.bsz, he.funs, fun b hb => keepNone b (he.frf b hb),
    he.hok.write mu (.inl rfl) (fun b u _ e => e) ⟨_, get⟩ (ho _), he.bare⟩
  refine codeAny_mono (F.run A outer s _ args us vs _ E hr e1 hb hv (hK i st t hi)) fun res s' hres => ?_
  cases res with
  | error e => exact hres
  | ok v =>
    cases v with
    | ret u =>
      obtain ⟨v, H', os, bare, un, hok, rel, i', s2, t', hi', hr', q⟩ := hres
      have mu' : Mut (H' r) := by
        rw [hr']
        trivial
      obtain ⟨_, its', n', rv', get'⟩ := hok r _ hr'
      have u1 : Un (frs outer) [] H (upd H r (rowL sc i st t)) s.heap s.heap := Un.write mu (.inl rfl) (fun b u _ e => e) ⟨_, get⟩
      have u2 : Un (frs outer) [] H' (upd H' r (rowO r sc)) s'.heap s'.heap := Un.write mu' (.inl rfl) (fun b u _ e => e) ⟨_, get'⟩
      exact ⟨v, _, os, bare, (u1.trans un).trans u2, hok.write mu' (.inl rfl) (fun b u _ e => e) ⟨_, get'⟩ (row_to hi' (hok r _ hr')), rel, q⟩
    | _ => exact hres
/-- a new row, at once known by its form alone -/
def tRow (sc : Addr) (te : TE) : TE := fun σ H Q => te σ H fun v H1 => ∃ r i s t, v = .ref r ∧ 0 ≤ i ∧ H1 r = some (rowL sc i s t) ∧ Q v (upd H1 r (rowO r sc))
theorem pe_row {X : Cx} {e : Expr} {te : TE} (sc : Addr) (h : PE X e te) : PE X e (tRow sc te) := ⟨fun pins s σ H Q I ht => by
  refine wpAny_mono (h.run pins s σ H _ I ht) (fun u s' ⟨v, H', I', rv, r, i, st, t, ev, hi, hr, q⟩ => ?_) fun e s' z => z
  have mu : Mut (H' r) := by
    rw [hr]
    trivial
  obtain ⟨_, its, n, rv', get⟩ := I'.hok r _ hr
  exact ⟨v, _, I'.write (t' := s'.toks) mu (.inl rfl) (fun b u _ e => e) ⟨_, get⟩ (row_to hi (I'.hok r _ hr)), rv, q⟩⟩

/-! ### values of which a property is known -/
def DX (t : TE) (env : EnvT) (p : PyData → Prop) : Prop := ∀ (B : Hp) (σ : L2.St) (H : Hp) (Q : VK), Ex B H → EnvOk B H env σ → (∀ d v B' H', p d → Wd B H B' H' → Dd B' v d → Q v H') → t σ H Q
def rowP (K : PySem.W.Frag) (r sc : Addr) (script : List Int) : OwnP := fun B o => o = rowO r sc ∧ SqL K B sc (script.map V.int)
theorem rowP.mon (K : PySem.W.Frag) (r sc : Addr) (script : List Int) : MonP (rowP K r sc script) := fun B B' o e ⟨h, k⟩ => ⟨h, SqL.ex k e⟩
/-- a promise of a def whose first argument is the row -/
def spR (K : PySem.W.Frag) (sc : Addr) (script : List Int) (pre : List PyData → Prop) (g : List PyData → PyData → Prop) : Sp := fun vs H Q _ => ∃ (B : Hp) (r : Addr) (us : List V) (ds : List PyData), vs = .ref r :: us ∧ Ex B H ∧ B r = none ∧ H r = some (rowO r sc) ∧ SqL K B sc (script.map V.int) ∧ DdA B us ds ∧ pre ds ∧
  ∀ d v B' H', g ds d → Wd B H B' H' → Dd B' v d → Q v H'
section
variable {env : EnvT} {ta tb te : TE} {ts : TA} {K : PySem.W.Frag} {x y : PyData} {p q : PyData → Prop} {r sc : Addr} {script : List Int}
theorem dx_of (h : DE te env x) (hp : p x) : DX te env p := fun B σ H Q e o k => h B σ H Q e o fun v B' H' w d => k x v B' H' hp w d
theorem dx_call {j : Nat} {pre : List PyData → Prop} {g : List PyData → PyData → Prop} {ds : List PyData} (hj : env[j]? = some (.own r (rowP K r sc script))) (h : DA ts env ds) (hp : pre ds) : DX (tCall (spR K sc script pre g) [] E0 (tCons (tVar j) ts)) env (g ds) := fun B σ H Q e o k => by
  obtain ⟨v, q1, q2, q3, ⟨u, q4, q5, q6⟩, _⟩ := o.at_ j _ hj
  subst q2 q5
  refine ⟨_, q1, h B σ H _ e o fun vs B1 H1 w1 d1 => ?_⟩
  show spR K sc script pre g (.ref r :: vs ++ []) H1 Q E0
  rw [List.append_nil]
  obtain ⟨v', z1, z2, z3, ⟨u', z4, z5, z6⟩, _⟩ := (o.wd w1).at_ j _ hj
  subst z5
  exact ⟨B1, r, vs, ds, rfl, w1.i, z3, z4, z6, d1, hp, fun d v B' H' hg w dv => k d v B' H' hg (w1.trans w) dv⟩
theorem dx_opR {r2 : R2} (ha : DE ta env x) (hb : DX tb env p) (hr : ∀ y, p y → ∃ z, q z ∧ DR2 r2 x y z) : DX (tOp r2 ta tb) env q := fun B σ H Q e o k =>
  ha B σ H _ e o fun v B1 H1 w1 d1 => hb B1 σ H1 _ w1.i (o.wd w1) fun y u B2 H2 py w2 d2 => by
    obtain ⟨z, qz, hz⟩ := hr y py
    exact hz B2 H2 v u Q w2.i (d1.up w2.b) d2 fun t B3 H3 w3 d3 => k z t B3 H3 qz ((w1.trans w2).trans w3) d3
theorem dx_opL {r2 : R2} (ha : DX ta env p) (hb : ∀ x, p x → DE tb env y) (hr : ∀ x, p x → ∃ z, q z ∧ DR2 r2 x y z) : DX (tOp r2 ta tb) env q := fun B σ H Q e o k =>
  ha B σ H _ e o fun x v B1 H1 px w1 d1 => hb x px B1 σ H1 _ w1.i (o.wd w1) fun u B2 H2 w2 d2 => by
    obtain ⟨z, qz, hz⟩ := hr x px
    exact hz B2 H2 v u Q w2.i (d1.up w2.b) d2 fun t B3 H3 w3 d3 => k z t B3 H3 qz ((w1.trans w2).trans w3) d3
theorem dx_imp (h : DX te env p) (hq : ∀ d, p d → q d) : DX te env q := fun B σ H Q e o k => h B σ H Q e o fun d v B' H' pd w dv => k d v B' H' (hq d pd) w dv
theorem dx_tup1 (h : DX te env p) : DX (tTup (tCons te tNil)) env (fun d => ∃ x, p x ∧ d = .tuple [x]) := fun B σ H Q e o k =>
  h B σ H _ e o fun x v B1 H1 px w1 d1 => ⟨by show 1 ≤ sizeLine; decide, fun t ht => k (.tuple [x]) _ _ _ ⟨x, px, rfl⟩ (w1.trans (Wd.new w1.i ht)) (.tup upd_same (.cons (d1.up (Ex.new (w1.i.back ht))) .nil))⟩
theorem dx_cb {rr : List V → Hp → VK → Prop} (h : DX te env p) (hr : ∀ x, p x → ∃ z, q z ∧ DC rr [x] z) : DX (tCB rr (tCons te tNil)) env q := fun B σ H Q e o k =>
  h B σ H _ e o fun x v B1 H1 px w1 d1 => by
    obtain ⟨z, qz, hz⟩ := hr x px
    exact hz B1 H1 [v] Q w1.i (.cons d1 .nil) fun u B2 H2 w2 d2 => k z u B2 H2 qz (w1.trans w2) d2
end
/-! ### a comprehension -/
section
variable {α : Type} {env : EnvT} {xs : List α} {enc : α → PyData} {p : α → PyData → Prop} {envf : α → EnvT} {wi : TI} {g : TG} {te : TE} {vs js : List Nat}
def All2 (p : α → PyData → Prop) (xs : List α) (ds : List PyData) : Prop := ds.length = xs.length ∧ ∀ (i : Nat) (x : α) (d : PyData), xs[i]? = some x → ds[i]? = some d → p x d
theorem All2.snoc {l : List α} {ds : List PyData} {x : α} {d : PyData} (h : All2 p l ds) (hx : p x d) : All2 p (l ++ [x]) (ds ++ [d]) := by
  refine ⟨by rw [List.length_append, List.length_append, h.1]; rfl, fun i y e h1 h2 => ?_⟩
  rcases Nat.lt_or_ge i l.length with c | c
  · rw [List.getElem?_append_left c] at h1
    rw [List.getElem?_append_left (by rw [h.1]; exact c)] at h2
    exact h.2 i y e h1 h2
  · rw [List.getElem?_append_right c] at h1
    rw [List.getElem?_append_right (by rw [h.1]; exact c), h.1] at h2
    cases hn : i - l.length with
    | zero =>
      rw [hn] at h1 h2
      simp at h1 h2
      rw [← h1, ← h2]
      exact hx
    | succ n =>
      rw [hn] at h1
      simp at h1
theorem dx_map (hi : DI wi env (xs.map enc)) (hl : xs.length ≤ 1000000) (hj : ∀ j ∈ js, j ∈ vs) (hg : ∀ x ∈ xs, DG g (wipeE env vs) (enc x) (envf x) js) (he : ∀ x ∈ xs, DX te (envf x) (p x)) :
    DX (tLc wi g tYes te vs) env (fun d => ∃ ds, d = .list ds ∧ All2 p xs ds) := fun B σ H Q e o k =>
  hi B σ H _ e o fun J B1 H1 w1 yl D hD => by
    have o1 := o.wd w1
    refine ⟨fun i m H' => m = xs.length - i ∧ i ≤ xs.length ∧ ∃ (Bi : Hp) (acc : List V) (ds : List PyData), Ex B1 Bi ∧ Ex Bi H' ∧ Ex H1 H' ∧ (∀ a u, Bi a = some u → B1 a = none → H1 a = none) ∧ Bi D = none ∧ H' D = some (.lst acc) ∧ DdA Bi acc ds ∧ All2 p (xs.take i) ds,
      ⟨xs.length, rfl, Nat.zero_le _, B1, [], [], Ex.refl _, w1.i.trans (Ex.new hD), Ex.new hD, fun a u q n => by (rw [q] at n; cases n), w1.i.back hD, upd_same, .nil, rfl, fun i x d h _ => by simp at h⟩, ?_⟩
    rintro i m H' ⟨rfl, hi', Bi, acc, ds, e1, e2, e3, fr, nD, hD', da, al⟩
    obtain ⟨y1, y2⟩ := yl Bi H' i e1 e2
    rcases Nat.lt_or_ge i xs.length with c | c
    · have hx : xs[i]? = some xs[i] := List.getElem?_eq_getElem c
      have mx : xs[i] ∈ xs := List.getElem_mem c
      generalize xs[i] = x at hx mx
      obtain ⟨g1, g2⟩ := y1 (enc x) (by rw [List.getElem?_map, hx]; rfl)
      refine .inr ⟨g1, fun H'' => i + 1 ≤ xs.length ∧ ∃ (Bi : Hp) (acc : List V) (ds : List PyData), Ex B1 Bi ∧ Ex Bi H'' ∧ Ex H1 H'' ∧ (∀ a u, Bi a = some u → B1 a = none → H1 a = none) ∧ Bi D = none ∧ H'' D = some (.lst acc) ∧ DdA Bi acc ds ∧ All2 p (xs.take (i + 1)) ds, fun H'' q => ⟨xs.length - (i + 1), by omega, rfl, q⟩, fun u H2 hy => ?_⟩
      obtain ⟨B2, w2, du⟩ := g2 u H2 hy
      have keep : ∀ {Ba Ha Bb Hb : Hp}, Wd Ba Ha Bb Hb → Ex B1 Ba → Ex H1 Ha → (∀ a u, Ba a = some u → B1 a = none → H1 a = none) → Ba D = none → Ha D = some (.lst acc) → (∀ a u, Bb a = some u → B1 a = none → H1 a = none) ∧ Bb D = none ∧ Hb D = some (.lst acc) := fun {Ba Ha Bb Hb} w a1 a2 a3 a4 a5 => by
        refine ⟨fun a u q n => ?_, ?_, w.h _ _ a5⟩
        · cases z : Ba a with
          | some t => exact a3 a t z n
          | none => exact a2.back (w.fr a u q z)
        · cases z : Bb D with
          | none => rfl
          | some t =>
            have z2 := w.fr D t z a4
            rw [a5] at z2
            cases z2
      obtain ⟨fr2, nD2, hD2⟩ := keep w2 e1 e3 fr nD hD'
      have oi : EnvOk B2 H2 env σ := o1.go (e1.trans w2.b) (fun a _ t q => w2.h _ _ (e3 _ _ q)) fun a ha => by
        obtain ⟨z1, t, z2⟩ := o1.own_at ha
        cases z : B2 a with
        | none => rfl
        | some t' =>
          have z3 := fr2 a t' z z1
          rw [z2] at z3
          cases z3
      refine hg x mx B2 (L2.wipe σ vs) H2 u _ w2.i (oi.wipe vs) du fun σ2 o2 hw => ⟨by rw [hw vs hj, wipe_wipe], dt_yes B2 σ2 H2 _ w2.i o2 fun B3 H3 w3 => ?_⟩
      obtain ⟨fr3, nD3, hD3⟩ := keep w3 (e1.trans w2.b) (e3.trans w2.h) fr2 nD2 hD2
      have ee := (e1.trans w2.b).trans w3.b
      refine he x mx B3 σ2 H3 _ w3.i (o2.wd w3) fun d v B4 H4 pd w4 d4 => ?_
      obtain ⟨fr4, nD4, hD4⟩ := keep w4 ee ((e3.trans w2.h).trans w3.h) fr3 nD3 hD3
      have la : acc.length = i := by
        rw [da.len, al.1, List.length_take]
        omega
      refine ⟨acc, hD4, size_lt (by omega), by omega, B4, acc ++ [v], ds ++ [d], ee.trans w4.b, w4.i.mut nD4, (((e3.trans w2.h).trans w3.h).trans w4.h).mut hD, fr4, nD4, upd_same, ?_, ?_⟩
      · exact (da.up ((w2.b.trans w3.b).trans w4.b)).app (.cons d4 .nil)
      · rw [take_next hx]
        exact al.snoc pd
    · have ei : i = xs.length := by omega
      subst ei
      rw [List.take_length] at al
      refine .inl ⟨y2 (by simp), k (.list ds) _ (upd Bi D (.lst acc)) H' ⟨ds, rfl, al⟩ ⟨(w1.b.trans e1).trans (Ex.new nD), fun a u q => ?_, w1.h.trans e3, fun a u q n => ?_⟩ (.lst upd_same (da.up (Ex.new nD)))⟩
      · by_cases z : a = D
        · subst z
          rw [upd_same] at q
          rw [hD', ← q]
        · rw [upd_ne z] at q
          exact e2 _ _ q
      · by_cases z : a = D
        · subst z
          exact w1.h.back hD
        · rw [upd_ne z] at q
          cases z2 : B1 a with
          | some t => exact w1.fr a t z2 n
          | none => exact w1.h.back (fr a u q z2)
end
/-! ### statements -/
section
variable {b : Bs} {env env' : EnvT} {te ta tb : TE} {tt : TT} {ts : TA} {t u : TS} {D : Ends} {d x y : PyData} {K : PySem.W.Frag} {p : PyData → Prop} {r sc : Addr} {script : List Int}
theorem go_asgX {i : Nat} (h : DX te env p) (k : ∀ d, p d → Go b (env.set i (.dat d)) D.nx) : Go b env (tAsg te (gName i) D) := fun σ H ⟨B, e1, w1, o, f⟩ =>
  h B σ H _ w1.i o fun d v B' H' pd w d' => k d pd _ _ ⟨B', e1.trans w.b, w1.trans w, (o.wd w).setD d', fun a ha => by
    rcases owned_set_mem ha with z | z
    · cases z
    · exact f a z⟩
theorem gs_asgX {i : Nat} (h : DX te env p) (k : ∀ d, p d → Go b (env.set i (.dat d)) (u D)) : Go b env (tSeq (tAsg te (gName i)) u D) := go_asgX (D := { D with nx := u D }) h k
/-- the ends of a body that works on the row -/
def GivesR (K : PySem.W.Frag) (r sc : Addr) (b : Bs) (D : Ends) (p : PyData → Prop) : Prop := ∀ d v B' H', p d → Wd b.B0 b.H0 B' H' → B' r = none → H' r = some (rowO r sc) → Dd B' v d → D.rt v H'
theorem go_retX {j : Nat} (hj : env[j]? = some (.own r (rowP K r sc script))) (h : DX te env p) (k : GivesR K r sc b D p) : Go b env (tRet te D) := fun σ H ⟨B, e1, w1, o, f⟩ =>
  h B σ H _ w1.i o fun d v B' H' pd w d' => by
    obtain ⟨v', z1, z2, z3, ⟨u', z4, z5, z6⟩, _⟩ := (o.wd w).at_ j _ hj
    subst z5
    exact k d v B' H' pd (w1.trans w) z3 z4 d'
/-- found, many = ([], e) -/
theorem go_tupLX {i j : Nat} (h : DX te env p) (k : ∀ a d, a ∉ owned env → p d → Go b ((env.set i (.own a (lstP []))).set j (.dat d)) D.nx) : Go b env (tAsg (tTup (tCons (tLst tNil) (tCons te tNil))) (gTup K 2 (gCons (gName i) (gCons (gName j) gNil))) D) := fun σ H ⟨B, e1, w1, o, f⟩ =>
  ⟨Nat.zero_le _, fun a ha => by
    have wa := Wd.side (o := .lst []) w1.i ha
    have na : a ∉ owned env := fun hm => by
      obtain ⟨_, z, hz⟩ := o.own_at hm
      rw [ha] at hz
      cases hz
    refine h B σ _ _ wa.i (o.wd wa) fun d v B' H' pd w d' => ⟨by show 2 ≤ sizeLine; decide, fun q hq => ?_⟩
    have hla : H' a = some (.lst []) := w.h _ _ upd_same
    have wq := Wd.side (o := .tup [.ref a, v]) w.i hq
    have nB : B' a = none := by
      cases z : B' a with
      | none => rfl
      | some t =>
        have z2 := w.fr a t z (w1.i.back ha)
        rw [upd_same] at z2
        cases z2
    have aq : a ≠ q := by
      rintro rfl
      rw [hq] at hla
      cases hla
    refine ⟨q, [.ref a, v], rfl, SqT.of upd_same, rfl, .ref a, [v], rfl, v, [], rfl, rfl, k a d na pd _ _ ⟨B', e1.trans w.b, ((w1.trans wa).trans w).trans wq, (((o.wd wa).wd w).wd wq |>.set (i := i) (s := .own a (lstP [])) (x := some (.ref a)) ⟨rfl, nB, ⟨_, by rw [upd_ne aq]; exact hla, [], rfl, .nil⟩, lstP.mon []⟩ fun c hc => ?_).setD d', fun c hc => ?_⟩⟩
    · have e : c = a := by simpa [ownerOf] using hc
      subst e
      exact .inl na
    · rcases owned_set_mem hc with z | z
      · cases z
      · rcases owned_set_mem z with z | z
        · have e : c = a := by simpa [ownerOf] using z
          subst e
          exact w1.h.back ha
        · exact f c z⟩
theorem gs_tupLX {i j : Nat} (h : DX te env p) (k : ∀ a d, a ∉ owned env → p d → Go b ((env.set i (.own a (lstP []))).set j (.dat d)) (u D)) : Go b env (tSeq (tAsg (tTup (tCons (tLst tNil) (tCons te tNil))) (gTup K 2 (gCons (gName i) (gCons (gName j) gNil)))) u D) := go_tupLX (D := { D with nx := u D }) h k
/-- a loop that goes through states -/
theorem go_forS {α S : Type} {xs : List α} {enc : α → PyData} {wi : TI} {tb : TS} {j : Nat} (E : S → EnvT) (I : List α → S → Prop) (s0 : S) (hi : DI wi env (xs.map enc)) (h0 : LeE env (E s0)) (i0 : I [] s0)
    (hs : ∀ (pre : List α) (x : α) (post : List α) (s : S) (c : Bs), xs = pre ++ x :: post → I pre s → c.B0 = b.B0 → c.H0 = b.H0 → Go c ((E s).set j (.dat (enc x))) (tb { D with nx := fun σ H => ∃ s', I (pre ++ [x]) s' ∧ SS c (E s') σ H, ct := fun σ H => ∃ s', I (pre ++ [x]) s' ∧ SS c (E s') σ H, bk := D.nx }))
    (hd : ∀ s, I xs s → Go b (E s) D.nx) : Go b env (tFor wi (gName j) tb D) := fun σ H ⟨B, e1, w1, o, f⟩ =>
  hi B σ H _ w1.i o fun J B1 H1 w yl => by
    have s1 : SS (b.at B1) (E s0) σ H1 := SS.weak ⟨B1, Ex.refl _, w1.trans w, o.wd w, f⟩ h0
    refine ⟨fun i m σ' H' => m = xs.length - i ∧ i ≤ xs.length ∧ ∃ s, I (xs.take i) s ∧ SS (b.at B1) (E s) σ' H', ⟨xs.length, rfl, Nat.zero_le _, s0, i0, s1⟩, ?_⟩
    rintro i m σ' H' ⟨rfl, hle, s, inv, B2, e2, w2, o2, f2⟩
    obtain ⟨y1, y2⟩ := yl B2 H' i e2 w2.i
    rcases Nat.lt_or_ge i xs.length with c | c
    · have hx : xs[i]? = some xs[i] := List.getElem?_eq_getElem c
      generalize xs[i] = x at hx
      obtain ⟨g1, g2⟩ := y1 (enc x) (by rw [List.getElem?_map, hx]; rfl)
      have sp : xs = xs.take i ++ x :: xs.drop (i + 1) := by
        have z := (List.take_append_drop i xs).symm
        rw [List.drop_eq_getElem_cons c] at z
        have ex : xs[i] = x := by
          rw [List.getElem?_eq_getElem c] at hx
          exact Option.some.inj hx
        rw [ex] at z
        exact z
      refine .inr ⟨g1, fun σ2 H2 => ∃ s', I (xs.take i ++ [x]) s' ∧ SS (b.at B1) (E s') σ2 H2, fun σ2 H2 q => ⟨xs.length - (i + 1), by omega, rfl, c, by rw [take_next hx]; exact q⟩, fun v H2 hy => ?_⟩
      obtain ⟨B3, w3, d3⟩ := g2 v H2 hy
      refine dg_name B3 σ' H2 v _ w3.i (o2.wd w3) d3 fun σ3 o3 _ => ?_
      exact hs (xs.take i) x _ s (b.at B1) sp inv rfl rfl σ3 H2 ⟨B3, e2.trans w3.b, w2.trans w3, o3, fun a ha => f2 a (by
        rcases owned_set_mem ha with z | z
        · cases z
        · exact z)⟩
    · have ei : i = xs.length := by omega
      subst ei
      rw [List.take_length] at inv
      exact .inl ⟨y2 (by simp), hd s inv σ' H' ⟨B2, (e1.trans w.b).trans e2, w2, o2, f2⟩⟩
theorem gs_forS {α S : Type} {xs : List α} {enc : α → PyData} {wi : TI} {tb : TS} {j : Nat} (E : S → EnvT) (I : List α → S → Prop) (s0 : S) (hi : DI wi env (xs.map enc)) (h0 : LeE env (E s0)) (i0 : I [] s0)
    (hs : ∀ (pre : List α) (x : α) (post : List α) (s : S) (c : Bs), xs = pre ++ x :: post → I pre s → c.B0 = b.B0 → c.H0 = b.H0 → Go c ((E s).set j (.dat (enc x))) (tb { D with nx := fun σ H => ∃ s', I (pre ++ [x]) s' ∧ SS c (E s') σ H, ct := fun σ H => ∃ s', I (pre ++ [x]) s' ∧ SS c (E s') σ H, bk := u D }))
    (hd : ∀ s, I xs s → Go b (E s) (u D)) : Go b env (tSeq (tFor wi (gName j) tb) u D) := go_forS (D := { D with nx := u D }) E I s0 hi h0 i0 hs hd
theorem go_turnS {S : Type} {E : S → EnvT} {P : S → Prop} (s : S) (p : P s) (l : LeE env (E s)) : Go b env (fun σ H => ∃ s, P s ∧ SS b (E s) σ H) := fun σ H h => ⟨s, p, h.weak l⟩
end

/-! ### bodies that work on the row -/
def hide (r : Addr) (H : Hp) : Hp := fun a => if a = r then none else H a
theorem hide_same {r : Addr} {H : Hp} : hide r H r = none := by unfold hide; rw [if_pos rfl]
theorem hide_ne {r a : Addr} {H : Hp} (h : a ≠ r) : hide r H a = H a := by unfold hide; rw [if_neg h]
theorem hide_ex {r : Addr} {H : Hp} : Ex (hide r H) H := fun a o h => by
  by_cases z : a = r
  · subst z
    rw [hide_same] at h
    cases h
  · rw [hide_ne z] at h
    exact h
theorem unhide {B H B' H' : Hp} {r : Addr} {o : HO} (w : Wd B (hide r H) B' H') (nB : B' r = none) (h : H r = some o) (h' : H' r = some o) : Wd B H B' H' := by
  refine ⟨w.b, w.i, fun a u e => ?_, fun a u e n => ?_⟩
  · by_cases z : a = r
    · subst z
      rw [h] at e
      cases e
      exact h'
    · exact w.h a u (by rw [hide_ne z]; exact e)
  · have z : a ≠ r := by
      rintro rfl
      rw [nB] at e
      cases e
    have := w.fr a u e n
    rw [hide_ne z] at this
    exact this
def envR (N : List Str) (s : Slot) (ds : List PyData) : EnvT := s :: (ds.map .dat ++ List.replicate (N.length - 1 - ds.length) .any)
theorem env_startR {B H : Hp} {us : List V} {ds : List PyData} {r : Addr} {q : OwnP} {o : HO} (N : List Str) (hN : 0 < N.length) (h : DdA B us ds) (nB : B r = none) (hr : H r = some o) (hq : q B o) (mq : MonP q) : EnvOk B H (envR N (.own r q) ds) (L2.start N (.ref r :: us)) := by
  have e0 : L2.start N (.ref r :: us) = some (.ref r) :: L2.start (N.drop 1) us := by
    unfold L2.start
    rw [List.map_cons, List.cons_append, List.length_cons, List.length_drop]
    congr 3
    omega
  have b1 := env_start (H := H) (N.drop 1) h
  have e1 : envR N (.own r q) ds = .own r q :: envOf (N.drop 1) ds := by
    unfold envR envOf
    rw [List.length_drop]
  rw [e0, e1]
  refine ⟨by rw [List.length_cons, List.length_cons, b1.len], fun i s e => ?_, ?_⟩
  · cases i with
    | zero =>
      have e' : Slot.own r q = s := by simpa using e
      subst e'
      exact ⟨_, rfl, rfl, nB, ⟨o, hr, hq⟩, mq⟩
    | succ i =>
      obtain ⟨x, h1, h2⟩ := b1.at_ i s (by simpa using e)
      exact ⟨x, by simpa using h1, h2⟩
  · show (r :: owned (envOf (N.drop 1) ds)).Nodup
    have e2 : owned (envOf (N.drop 1) ds) = [] := by unfold envOf; exact owned_dats _ _
    rw [e2]
    simp
theorem run_spR {K : PySem.W.Frag} {sc : Addr} {script : List Int} {pre : List PyData → Prop} {g : List PyData → PyData → Prop} {N : List Str} {vs : List V} {H : Hp} {Q : VK} {E : XK} {t : TS} (hN : 0 < N.length) (h : spR K sc script pre g vs H Q E)
    (body : ∀ ds r, pre ds → ∀ (b : Bs) (D : Ends), GivesR K r sc b D (g ds) → Go b (envR N (.own r (rowP K r sc script)) ds) (t D)) :
    t { nx := fun _ H' => Q .non H', rt := Q } (L2.start N vs) H := by
  obtain ⟨B, r, us, ds, rfl, e, nB, hr, hsc, d, hp, k⟩ := h
  refine body ds r hp ⟨B, hide r H, B⟩ _ (fun d v B' H' pd w nB' hr' dv => k d v B' H' pd (unhide w nB' hr hr') dv) _ _ ⟨B, Ex.refl B, ⟨Ex.refl B, e, hide_ex, fun a u q n => by
    have n' : B a = none := n
    rw [q] at n'
    cases n'⟩, env_startR N hN d nB hr ⟨rfl, hsc⟩ (rowP.mon K r sc script), fun a ha => ?_⟩
  unfold envR at ha
  rw [owned_cons, owned_dats] at ha
  have e : a = r := by simpa [ownerOf] using ha
  subst e
  exact hide_same
theorem spR_len {K : PySem.W.Frag} {sc : Addr} {script : List Int} {pre : List PyData → Prop} {g : List PyData → PyData → Prop} {n : Nat} {vs : List V} {H : Hp} {Q : VK} {E : XK} (h : spR K sc script pre g vs H Q E) (k : ∀ ds, pre ds → ds.length + 1 = n) : vs.length = n := by
  obtain ⟨B, r, us, ds, rfl, e, nB, hr, hsc, d, hp, _⟩ := h
  rw [List.length_cons, d.len]
  exact k ds hp
end LW

/-! A set of distinct pairs. What a set's table does is the library's (HandS.TupSets: TabOk, go_spec, relaid_ok); here: the search for a pair that is not there, and its putting in. -/
namespace LW
open PySem PySem.Spec PyProof.Rows L2
open Evl (Ex)

/-! ### where a pair stands -/
def TupAt (h : Heap) (b : Addr) (its : List Value) : Prop := ∃ (o : Obj) (n : Nat), h.get? b = some o ∧ o.cls = .type "tuple" ∧ o.data = .seq its.toArray n
def PrAt (h : Heap) (b : Addr) (p : FP) : Prop := ∃ (c : Addr) (ys : List Value) (k : Tok), TupAt h b [.ref c, .int p.2 k] ∧ TupAt h c ys ∧ Vals (p.1.map V.int) ys
/-- all sequences stay -/
def SeqsStay (h h' : Heap) : Prop := ∀ c o vs n, h.get? c = some o → o.data = .seq vs n → h'.get? c = some o
theorem TupAt.up {h h' : Heap} {b : Addr} {its : List Value} (x : TupAt h b its) (k : SeqsStay h h') : TupAt h' b its := by
  obtain ⟨o, n, e, c, d⟩ := x
  exact ⟨o, n, k _ _ _ _ e d, c, d⟩
theorem PrAt.up {h h' : Heap} {b : Addr} {p : FP} (x : PrAt h b p) (k : SeqsStay h h') : PrAt h' b p := by
  obtain ⟨c, ys, t, h1, h2, r⟩ := x
  exact ⟨c, ys, t, h1.up k, h2.up k, r⟩
theorem PrAt.keep {h h' : Heap} {b : Addr} {p : FP} (x : PrAt h b p) (k : ∀ c o, h.get? c = some o → h'.get? c = some o) : PrAt h' b p := x.up fun c o _ _ e _ => k c o e
theorem seq_kept {h h' : Heap} {a : Addr} {o : Obj} {es : Array (Int × Value)} {ep : Nat} {t : SetTable} (ho : h.get? a = some o) (hd : o.data = .set es ep t) (hs : Heap.SameBut a h h') : SeqsStay h h' := fun c u vs n e d => by
  refine (hs.2 c fun z => ?_).trans e
  rw [z, ho] at e
  cases e
  rw [hd] at d
  cases d
theorem nested_ints {h : Heap} : ∀ {l : List Int} {ys : List Value}, Vals (l.map V.int) ys → NestedAll h (l.map .num) ys
  | [], _, r => by cases r; exact .nil
  | x :: l, _, r => by
    cases r with
    | cons h1 t =>
      obtain ⟨k, rfl⟩ := h1
      exact .cons (.int _ _) (nested_ints t)
theorem PrAt.nk {P : Program} {w : World} {h : Heap} {b : Addr} {p : FP} (x : PrAt h b p) : (nestedKind P w).is h (fk p) b := by
  obtain ⟨c, ys, k, ⟨o, n, e, hc, d⟩, ⟨o2, n2, e2, hc2, d2⟩, r⟩ := x
  exact ⟨.tup e hc d (.cons (.tup e2 hc2 d2 (nested_ints r)) (.cons (.int _ _) .nil)), fk_depth p⟩

section
variable {P : Program} {w : World}
/-! ### questions that all answer alike -/
section
variable {A : Around} {E : Value → Shared → Prop} {s : Shared}
/-- a loop each of whose turns leaves all as it was -/
theorem loop_idle {β : Type} {M : Model} {g : Value → β → Sem (ForInStep β)} {b0 : β} {Q : β → Shared → Prop} (its : List Value) (ht : ∀ v ∈ its, wpAny M A (g v b0) (fun x s' => x = .yield b0 ∧ s' = s) E s) (hq : Q b0 s) : wpAny M A (forIn its b0 g) Q E s := by
  refine wpAny_forIn_list g (fun rest b s' => b = b0 ∧ s' = s ∧ ∀ v ∈ rest, v ∈ its) Q (fun v rest b s' hI => ?_) (fun b s' hI => ?_) its b0 ⟨rfl, rfl, fun _ h => h⟩
  · obtain ⟨rfl, rfl, sub⟩ := hI
    refine wpAny_mono (ht v (sub v (by simp))) (fun x s2 hx => ?_) fun e s2 z => z
    obtain ⟨rfl, rfl⟩ := hx
    exact ⟨rfl, rfl, fun u hu => sub u (by simp [hu])⟩
  · obtain ⟨rfl, rfl, _⟩ := hI
    exact hq
theorem loop_idleA {β : Type} {M : Model} {g : Value → β → Sem (ForInStep β)} {b0 : β} {Q : β → Shared → Prop} (its : List Value) (ht : ∀ v ∈ its, wpAny M A (g v b0) (fun x s' => x = .yield b0 ∧ s' = s) E s) (hq : Q b0 s) : wpAny M A (forIn its.toArray b0 g) Q E s := by
  rw [← Array.forIn_toList]
  exact loop_idle its ht hq
end
/-- at s the question f of v is answered by c, and nothing else happens -/
def Ans (P : Program) (w : World) (f : Value → Sem Bool) (c : Bool) (s : Shared) (v : Value) : Prop := ∀ (A : Around) (E : Value → Shared → Prop) (Q : Bool → Shared → Prop), Q c s → wpAny (model P w) A (f v) Q E s
/-- an answer by a rule without effect -/
theorem ans_pure {f : Value → Sem Bool} {c : Bool} {s : Shared} {v : Value} (e : f v = pure c) : Ans P w f c s v := fun A E Q h => by rw [e]; exact wpAny_pure h
theorem cls_tup {s : Shared} {n : Nat} {b : Addr} {its : List Value} (x : TupAt s.heap b its) (hi : ∀ v ∈ its, Ans P w (ofAClassStatement n) false s v) : Ans P w (ofAClassStatement (n + 1)) false s (.ref b) := fun A E Q h => by
  obtain ⟨o, m, at_, cl, dt⟩ := x
  unfold ofAClassStatement; refine wpAny_bind (wpAny_typeOf ⟨o, at_, cl⟩ ?_)
  simp only [show (("tuple" : String) == "tuple") = true by decide, if_true]; refine wpAny_bind (wpAny_pure ?_)
  simp only [Bool.not_true, if_neg Bool.false_ne_true]; refine wpAny_bind (wpAny_seqItems at_ dt ?_)
  refine wpAny_bind (loop_idleA its (fun v hv => wpAny_bind (hi v hv _ _ _ ?_)) (wpAny_pure h))
  exact wpAny_pure ⟨rfl, rfl⟩
theorem val_tup {s : Shared} {n : Nat} {b : Addr} {its : List Value} (x : TupAt s.heap b its) (hi : ∀ v ∈ its, Ans P w (hashByValue n) true s v) : Ans P w (hashByValue (n + 1)) true s (.ref b) := fun A E Q h => by
  obtain ⟨o, m, at_, cl, dt⟩ := x
  unfold hashByValue; refine wpAny_bind (wpAny_specialOf ⟨o, at_, cl⟩ F.slot_tuple_hash.lookup (wpAny_bind (wpAny_seqItems at_ dt ?_)))
  refine wpAny_bind (loop_idleA its (fun v hv => wpAny_bind (hi v hv _ _ _ ?_)) (wpAny_pure h))
  exact wpAny_pure ⟨rfl, rfl⟩
theorem ints_vals : ∀ {l : List Int} {ys : List Value}, Vals (l.map V.int) ys → ∀ v ∈ ys, ∃ i k, v = Value.int i k
  | [], _, r, v, hv => by cases r; cases hv
  | x :: l, _, r, v, hv => by
    cases r with
    | cons h1 t =>
      obtain ⟨k, e2⟩ := h1
      exact (List.mem_cons.mp hv).elim (fun e => ⟨x, k, e.trans e2⟩) (ints_vals t v)
/-- what is true of ints, and climbs a tuple, is true of a pair -/
theorem PrAt.climb {s : Shared} {b : Addr} {p : FP} (x : PrAt s.heap b p) {f : Nat → Value → Sem Bool} {c : Bool} (hint : ∀ n i k, f n (.int i k) = pure c)
    (htup : ∀ (n : Nat) (b : Addr) (its : List Value), TupAt s.heap b its → (∀ v ∈ its, Ans P w (f n) c s v) → Ans P w (f (n + 1)) c s (.ref b)) : Ans P w (f 8) c s (.ref b) := by
  obtain ⟨a2, ys, k, h1, h2, r⟩ := x
  have low : Ans P w (f 7) c s (.ref a2) := htup 6 a2 ys h2 fun u hu => by
    obtain ⟨i, k, rfl⟩ := ints_vals r u hu
    exact ans_pure (hint _ _ _)
  refine htup 7 b _ h1 fun v hv => ?_
  rcases List.mem_cons.mp hv with rfl | hv
  · exact low
  · rw [List.mem_singleton.mp hv]
    exact ans_pure (hint _ _ _)
theorem PrAt.cls {s : Shared} {b : Addr} {p : FP} (x : PrAt s.heap b p) : Ans P w (ofAClassStatement 8) false s (.ref b) := x.climb (f := ofAClassStatement) ofAClass_int fun n b its t h => cls_tup t h
theorem PrAt.byVal {s : Shared} {b : Addr} {p : FP} (x : PrAt s.heap b p) : Ans P w (hashByValue 8) true s (.ref b) := x.climb (f := hashByValue) hashBy_int fun n b its t h => val_tup t h
/-- no search among pairs shows -/
theorem pr_unseen {s : Shared} {b : Addr} {p : FP} (x : PrAt s.heap b p) {ys : List Value} (hy : ∀ y ∈ ys, ∃ q c, y = Value.ref c ∧ PrAt s.heap c q) : Ans P w (fun v => searchCouldBeSeen v ys) false s (.ref b) := fun A E Q h => by
  show wpAny _ _ (searchCouldBeSeen (.ref b) ys) _ _ _
  unfold searchCouldBeSeen
  refine wpAny_bind (loop_idle ys (fun v hv => ?_) (wpAny_pure h))
  obtain ⟨q, c, rfl, hc⟩ := hy v hv
  dsimp only
  split
  · exact wpAny_pure ⟨rfl, rfl⟩
  · refine wpAny_bind ((nestedKind P w).quiet (x.nk (P := P) (w := w)) (wpAny_bind ((nestedKind P w).quiet (hc.nk (P := P) (w := w)) ?_)))
    refine wpAny_bind (x.cls _ _ _ (wpAny_bind (hc.cls _ _ _ ?_)))
    exact wpAny_pure ⟨rfl, rfl⟩

/-! ### the set -/
abbrev fh (w : World) (p : FP) : Int := (fk p).hash w
abbrev rowE (w : World) (x : FP × Addr) : Int × Value := (fh w x.1, Value.ref x.2)
abbrev Shows (w : World) (t : SetTable) : Prop := w.params.followText "set-order" = true ∨ t.led = true
structure PSetAt (w : World) (h : Heap) (a : Addr) (L : List (FP × Addr)) (es : Array (Int × Value)) (ep : Nat) (t : SetTable) : Prop where
  obj : ∃ o, h.get? a = some o ∧ o.ExactSet ∧ o.data = .set es ep t
  ent : es.toList = L.map (rowE w)
  tab : TabOk t (L.map fun x => fh w x.1)
  prs : ∀ x ∈ L, PrAt h x.2 x.1
  pln : t.plain = true
  led : Shows w t
  gap : L.length * 5 < t.mask * 3
  few : L.length < 64
variable {a : Addr} {L : List (FP × Addr)} {es : Array (Int × Value)} {ep : Nat} {t : SetTable} {h : Heap}
theorem size_by {es : Array (Int × Value)} {L : List (FP × Addr)} (e : es.toList = L.map (rowE w)) : es.size = L.length := by
  have := congrArg List.length e
  rwa [Array.length_toList, List.length_map] at this
theorem PSetAt.cnt (R : PSetAt w h a L es ep t) : es.size = L.length := size_by R.ent
theorem fits_of {n : Nat} (hp : t.place.size = n) (hd : t.dummies = #[]) (hm : n ≤ t.mask) : t.fits n = true := by
  simp [SetTable.fits, SetTable.fill, hd, hp, hm]
theorem PSetAt.slots (R : PSetAt w h a L es ep t) : t.place.size = L.length := by
  have := R.tab.sz
  rwa [List.length_map] at this
theorem PSetAt.fits (R : PSetAt w h a L es ep t) : t.fits es.size = true := by
  rw [R.cnt]
  exact fits_of R.slots R.tab.dm (by have := R.gap; omega)
theorem PSetAt.at_ (R : PSetAt w h a L es ep t) {i : Nat} {x : FP × Addr} (e : L[i]? = some x) : es[i]? = some (rowE w x) := by
  rw [← Array.getElem?_toList, R.ent, List.getElem?_map, e]
  rfl
theorem PSetAt.sound (R : PSetAt w h a L es ep t) : t.gaveWay = false := by
  simp [SetTable.gaveWay, mask_odd R.tab.mok]
theorem PSetAt.move {h' : Heap} (R : PSetAt w h a L es ep t) (ha : ∀ o, h.get? a = some o → h'.get? a = some o) (hp : ∀ x ∈ L, PrAt h' x.2 x.1) : PSetAt w h' a L es ep t := by
  obtain ⟨o, ho, r⟩ := R.obj
  exact ⟨⟨o, ha o ho, r⟩, R.ent, R.tab, hp, R.pln, R.led, R.gap, R.few⟩
/-- the table asked, its own words -/
theorem PSetAt.ask {s : Shared} (R : PSetAt w s.heap a L es ep t) {A : Around} {E : Value → Shared → Prop} {Q : (Array (Int × Value) × Nat × SetTable) → Shared → Prop} (hq : Q (es, ep, t) s) : wpAny (model P w) A (setState a) Q E s := by
  obtain ⟨o, ho, _, hd⟩ := R.obj
  exact wpAny_setState_of ho hd R.fits hq

/-! ### the search -/
/-- the way's c-th stage -/
abbrev stg (m : Nat) (k : Int) (c : Nat) : SetTable.Probe := nth m (runAt m (SetTable.bits k % (m + 1)) (SetTable.bits k)) c
theorem stg_dummy (m : Nat) (k : Int) : ∀ c, (stg m k c).dummy = none
  | 0 => rfl
  | c + 1 => by
    rw [stg, nth_succ]
    have := stg_dummy m k c
    unfold adv
    split <;> exact this
/-- from the c-th stage on: a row of the same hash, or the first free place -/
theorem PSetAt.met (R : PSetAt w h a L es ep t) (k : Int) {K c : Nat} (hK1 : K < 10 * SetTable.turns t.mask) (hK : way t.mask k K ∉ t.place.toList) (hK2 : ∀ i, i < K → way t.mask k i ∈ t.place.toList) (hc : c ≤ K) :
    (∃ q i x, c + q < K ∧ L[i]? = some x ∧ t.place.toList[i]? = some (way t.mask k (c + q)) ∧ t.probe (fun i => (es[i]?.map (·.1)).getD 0) k (stg t.mask k c) = some (.candidate (way t.mask k (c + q)) i (stg t.mask k (c + q + 1)))) ∨
    t.probe (fun i => (es[i]?.map (·.1)).getD 0) k (stg t.mask k c) = some (.empty (way t.mask k K) none) := by
  have fwd : ∀ q, nth t.mask (stg t.mask k c) q = stg t.mask k (c + q) := fun q => (nth_add t.mask c _ q).symm
  have sp := go_spec t R.tab.ris R.tab.dm (fun i => (es[i]?.map (·.1)).getD 0) k (10 * SetTable.turns t.mask) (K - c) (stg t.mask k c) (stg_dummy _ _ _) (by omega)
    (fun q hq => by rw [fwd]; exact hK2 (c + q) (by omega)) (by rw [fwd, Nat.add_sub_cancel' hc]; exact hK)
  rcases sp with ⟨q, i, hq, hi, _, _, e⟩ | ⟨_, e⟩
  · left
    rw [fwd] at hi
    have hl : i < L.length := by
      have z := (List.getElem?_eq_some_iff.mp hi).1
      have := R.slots
      simp only [Array.length_toList] at z
      omega
    refine ⟨q, i, L[i], by omega, List.getElem?_eq_getElem hl, hi, ?_⟩
    rw [fwd, fwd] at e
    exact e
  · right
    rw [fwd, Nat.add_sub_cancel' hc] at e
    exact e
/-- what isn't there is not found -/
theorem seek {A : Around} {E : Value → Shared → Prop} {s : Shared} (R : PSetAt w s.heap a L es ep t) {b : Addr} {p : FP} (hb : PrAt s.heap b p) (hn : ∀ x ∈ L, x.1 ≠ p) (hu : A.units + 8 < cLine) {K : Nat} (hK1 : K < 10 * SetTable.turns t.mask) (hK : way t.mask (fh w p) K ∉ t.place.toList)
    (hK2 : ∀ i, i < K → way t.mask (fh w p) i ∈ t.place.toList) {Q : SetFound → Shared → Prop} (hQ : Q (.free (way t.mask (fh w p) K) false) s) :
    ∀ (f c : Nat) (st : Option SetTable.Probe), st.getD (t.probeStart (fh w p)) = stg t.mask (fh w p) c → c ≤ K → K < f + c → wpAny (model P w) A (setSearchFrom a (.ref b) (fh w p) true f st) Q E s
  | 0, c, st, _, h1, h2 => by omega
  | f + 1, c, st, e, h1, h2 => by
    rw [setSearchFrom_succ]
    refine wpAny_bind (R.ask ?_); dsimp only; rw [R.sound, e]
    rcases R.met (fh w p) hK1 hK hK2 h1 with ⟨q, i, x, hq, hx, hi, ep'⟩ | ep'
    · have mx : x ∈ L := List.mem_of_getElem? hx
      have ne : ¬ fk x.1 = fk p := fun e => hn x mx (fk_inj e)
      have cont : wpAny (model P w) A (searchRest a (.ref b) (fh w p) true f es t (way t.mask (fh w p) (c + q)) i (stg t.mask (fh w p) (c + q + 1))) Q E s := by
        unfold searchRest; rw [R.at_ hx]; dsimp only
        refine wpAny_bind (wpAny_holding ((nestedKind P w).eqBool hu (R.prs x mx).nk hb.nk (wpAny_bind (R.ask ?_)))); rw [decide_eq_false ne]
        dsimp only; rw [if_neg (show ¬ (true && false) = true by decide), sameMem]; dsimp only; rw [if_pos rfl, slot_live R.tab.ris hi]; dsimp only; rw [R.at_ hx]
        refine wpAny_bind (wpAny_isSame_ref_self ?_); rw [if_pos rfl]; refine wpAny_bind (wpAny_pure ?_); dsimp only; rw [if_neg Bool.false_ne_true]
        exact seek R hb hn hu hK1 hK hK2 hQ f (c + q + 1) _ rfl (by omega) (by omega)
      rw [ep']; dsimp only
      rcases Bool.eq_false_or_eq_true t.led with hl | hl <;> rw [hl]
      · exact cont
      · refine wpAny_bind (pr_unseen hb (fun y hy => ?_) _ _ _ cont)
        obtain ⟨e, he, rfl⟩ := List.mem_map.mp hy
        have mem : e ∈ es.toList := by
          have := (show e ∈ es ∧ e.1 = fh w p by simpa using he).1
          simpa using this
        rw [R.ent] at mem
        obtain ⟨z, hz, rfl⟩ := List.mem_map.mp mem
        exact ⟨z.1, z.2, rfl, R.prs z hz⟩
    · rw [ep']
      exact wpAny_pure hQ
theorem seek_all {A : Around} {E : Value → Shared → Prop} {s : Shared} (R : PSetAt w s.heap a L es ep t) {b : Addr} {p : FP} (hb : PrAt s.heap b p) (hn : ∀ x ∈ L, x.1 ≠ p) (hu : A.units + 8 < cLine) {Q : SetFound → Shared → Prop}
    (hQ : ∀ K, way t.mask (fh w p) K ∉ t.place.toList → (∀ c, c < K → way t.mask (fh w p) c ∈ t.place.toList) → Q (.free (way t.mask (fh w p) K) false) s) : wpAny (model P w) A (setSearch a (.ref b) (fh w p) true) Q E s := by
  obtain ⟨K, hK1, hK, hK2⟩ := R.tab.first (by have := R.gap; rw [List.length_map]; omega) (fh w p)
  have far : 10 * SetTable.turns t.mask ≤ 99999 := by
    have := R.tab.mok
    unfold MaskOk at this
    unfold SetTable.turns
    omega
  exact seek R hb hn hu hK1 hK hK2 (hQ K hK hK2) 100000 0 none rfl (Nat.zero_le _) (by omega)

/-! ### laid anew -/
theorem pick_all {α : Type} (l : List α) : (List.range l.length).filterMap (fun i => l[i]?) = l := by
  have gen : ∀ n, n ≤ l.length → (List.range n).filterMap (fun i => l[i]?) = l.take n := by
    intro n
    induction n with
    | zero => intro _; rfl
    | succ n ih =>
      intro hn
      rw [List.range_succ, List.filterMap_append, ih (by omega), List.filterMap_cons_some (List.getElem?_eq_getElem (by omega)), List.filterMap_nil, List.take_succ, List.getElem?_eq_getElem (by omega)]
      rfl
  rw [gen _ (Nat.le_refl _), List.take_length]
theorem pick_map {α β : Type} (g : α → β) (l : List α) (order : List Nat) : order.filterMap (fun i => (l.map g)[i]?) = (order.filterMap fun i => l[i]?).map g := by
  rw [List.map_filterMap]
  simp only [List.getElem?_map]
theorem pick_getD {β : Type} (d : β) (l : List β) (order : List Nat) (h : ∀ i ∈ order, i < l.length) : order.filterMap (fun i => l[i]?) = order.map fun i => l.getD i d := by
  induction order with
  | nil => rfl
  | cons i order ih =>
    have hi := h i (by simp)
    rw [List.filterMap_cons_some (List.getElem?_eq_getElem hi), List.map_cons, ih fun j hj => h j (List.mem_cons_of_mem _ hj), List.getD_eq_getElem?_getD, List.getElem?_eq_getElem hi]
    rfl
/-- the rows in another order -/
theorem reorder {es : Array (Int × Value)} {order : Array Nat} (hent : es.toList = L.map (rowE w)) (hp : order.toList.Perm (List.range L.length)) :
    ∃ M : List (FP × Addr), M.Perm L ∧ (order.filterMap (es[·]?)).toList = M.map (rowE w) ∧ (order.toList.map fun i => (es.map (·.1)).getD i 0) = M.map fun x => fh w x.1 := by
  refine ⟨order.toList.filterMap fun i => L[i]?, ?_, ?_, ?_⟩
  · have := hp.filterMap fun i => L[i]?
    rwa [pick_all] at this
  · rw [← pick_map, ← hent, Array.toList_filterMap]
    refine congrArg (fun g => List.filterMap g order.toList) (funext fun i => ?_)
    rw [Array.getElem?_toList]
  · rw [← pick_map, pick_getD 0 _ _ fun i hi => by rw [List.length_map]; exact List.mem_range.mp (hp.mem_iff.mp hi)]
    have e : L.map (fun x => fh w x.1) = (es.map (·.1)).toList := by
      rw [Array.toList_map, hent, List.map_map]
      rfl
    refine List.map_congr_left fun i hi => ?_
    rw [e, List.getD_eq_getElem?_getD, Array.getElem?_toList, Array.getD_eq_getD_getElem?]
/-- rows in a table of their own, however full -/
structure Laid (w : World) (h : Heap) (a : Addr) (L : List (FP × Addr)) (es : Array (Int × Value)) (ep : Nat) (t : SetTable) : Prop where
  obj : ∃ o, h.get? a = some o ∧ o.ExactSet ∧ o.data = .set es ep t
  ent : es.toList = L.map (rowE w)
  tab : TabOk t (L.map fun x => fh w x.1)
  prs : ∀ x ∈ L, PrAt h x.2 x.1
  pln : t.plain = true
  led : Shows w t
  few : L.length < 64
theorem Laid.whole (R : Laid w h a L es ep t) (g : L.length * 5 < t.mask * 3) : PSetAt w h a L es ep t := ⟨R.obj, R.ent, R.tab, R.prs, R.pln, R.led, g, R.few⟩
/-- rows and a table are written -/
theorem write_set {A : Around} {E : Value → Shared → Prop} {s : Shared} {o : Obj} {M : List (FP × Addr)} {es1 : Array (Int × Value)} {t1 : SetTable} {Q : Unit → Shared → Prop} (ho : s.heap.get? a = some o) (hex : o.ExactSet) (hd : o.data = .set es ep t) (ent : es1.toList = M.map (rowE w)) (tab : TabOk t1 (M.map fun x => fh w x.1))
    (prs : ∀ x ∈ M, PrAt s.heap x.2 x.1) (pln : t1.plain = true) (led : Shows w t1) (few : M.length < 64) (hQ : ∀ h', Heap.SameBut a s.heap h' → Laid w h' a M es1 (ep + 1) t1 → Q () { s with heap := h' }) : wpAny (model P w) A (storeSet a es1 t1) Q E s := by
  have only_a : Heap.SameBut a s.heap (s.heap.update a (Obj.putSet es1 t1)) := Heap.SameBut.update ..
  refine wpAny_storeSet_of ho hd (hQ _ only_a ⟨⟨_, store_at ho hd, ⟨hex.1, hex.2.1, hex.2.2⟩, rfl⟩, ent, tab, fun x hx => (prs x hx).up (seq_kept ho hd only_a), pln, led, few⟩) ?_
  have := size_by ent
  rw [sizeLine_eq]
  omega
theorem relay_new {A : Around} {E : Value → Shared → Prop} {s : Shared} (R : Laid w s.heap a L es ep t) (hfl : L.length ≤ t.mask) {wanted M : Nat} (hw : SetTable.sizeAbove wanted = M + 1) (hM : MaskOk M) (hn : L.length * 5 < M * 3) {Q : Unit → Shared → Prop}
    (hQ : ∀ h' L' es' ep' t', Heap.SameBut a s.heap h' → PSetAt w h' a L' es' ep' t' → L'.Perm L → Q () { s with heap := h' }) : wpAny (model P w) A (setRelay a wanted) Q E s := by
  obtain ⟨o, ho, hex, hd⟩ := R.obj
  have cnt := size_by R.ent
  have slots := R.tab.sz
  rw [List.length_map] at slots
  have big : M ≤ 127 := by
    unfold MaskOk at hM
    omega
  obtain ⟨t', order, e, pm, T, em, el, epl, _⟩ := relaid_ok t (hs := es.map (·.1)) (wanted := wanted) (M := M) (by omega) hM (by rw [Array.size_map]; omega)
  rw [Array.size_map, cnt] at pm
  obtain ⟨L2, p2, r1, r2⟩ := reorder R.ent pm
  rw [r2] at T
  have sz : (order.filterMap (es[·]?)).size = es.size := by rw [size_by r1, p2.length_eq, cnt]
  rw [setRelay_eq]
  refine wpAny_bind (wpAny_setState_of ho hd (fits_of (slots.trans cnt.symm) R.tab.dm (by omega)) ?_); dsimp only; rw [if_neg (by rw [sizeLine_eq]; omega), e]
  refine wpAny_bind ?_; dsimp only; rw [if_neg (by rw [sz]; simp)]; refine wpAny_pure ?_
  refine write_set ho hex hd r1 T (fun x hx => R.prs x (p2.mem_iff.mp hx)) (by rw [epl]; exact R.pln) ?_ (by rw [p2.length_eq]; exact R.few) fun h' sb R' => hQ h' L2 _ _ t' sb (R'.whole (by rw [p2.length_eq, em]; exact hn)) p2
  unfold Shows
  rw [el]
  exact R.led
/-- a new pair is put in -/
theorem put_new {A : Around} {E : Value → Shared → Prop} {s : Shared} (R : PSetAt w s.heap a L es ep t) {b : Addr} {p : FP} (hb : PrAt s.heap b p) (hn : ∀ x ∈ L, x.1 ≠ p) (hu : A.units + 8 < cLine) (hfew : L.length + 1 < 64) {Q : Bool → Shared → Prop}
    (hQ : ∀ h' L' es' ep' t', Heap.SameBut a s.heap h' → PSetAt w h' a L' es' ep' t' → L'.Perm ((p, b) :: L) → Q true { s with heap := h' }) : wpAny (model P w) A (setAddHashed a (.ref b) (fh w p)) Q E s := by
  obtain ⟨o, ho, hex, hd⟩ := R.obj
  have cnt := R.cnt
  have gap := R.gap
  unfold setAddHashed
  refine wpAny_holding ?_
  show wpAny _ _ (setAddHashedIn a (.ref b) (fh w p) (99999 + 1)) _ _ _
  rw [setAddHashedIn_succ]
  refine wpAny_bind (R.ask ?_); dsimp only; rw [show byScan (Value.ref b) es = false by simp [byScan, Value.scannable]]
  refine wpAny_bind (seek_all R hb hn hu fun K hK hK2 => ?_); dsimp only; refine wpAny_bind (R.ask ?_); dsimp only
  obtain ⟨q1, q2, q3, q4, q5, q6, _, _, q9⟩ := R.tab.put hK hK2
  have pl1 : (t.put (way t.mask (fh w p) K)).1.plain = true := by rw [q6]; exact R.pln
  have ld1 : Shows w (t.put (way t.mask (fh w p) K)).1 := by
    unfold Shows
    rw [q5]
    exact R.led
  have rows : (SetTable.insertAt es (t.put (way t.mask (fh w p) K)).2 (rowE w (p, b))).toList = (L.take (t.put (way t.mask (fh w p) K)).2 ++ (p, b) :: L.drop (t.put (way t.mask (fh w p) K)).2).map (rowE w) := by
    rw [SetTable.toList_insertAt, R.ent]
    simp
  have hh : (L.map fun x => fh w x.1).take (t.put (way t.mask (fh w p) K)).2 ++ fh w p :: (L.map fun x => fh w x.1).drop (t.put (way t.mask (fh w p) K)).2 = (L.take (t.put (way t.mask (fh w p) K)).2 ++ (p, b) :: L.drop (t.put (way t.mask (fh w p) K)).2).map fun x => fh w x.1 := by simp
  rw [← q1, hh] at q3
  generalize t.put (way t.mask (fh w p) K) = pt at q3 q4 q9 pl1 ld1 rows ⊢
  obtain ⟨t1, i⟩ := pt
  dsimp only at q3 q4 q9 pl1 ld1 rows ⊢
  have pm := put_perm L i (p, b)
  generalize L.take i ++ (p, b) :: L.drop i = L1 at pm q3 rows
  have len : L1.length = L.length + 1 := pm.length_eq
  rw [pl1, if_pos rfl]
  refine wpAny_bind (hb.byVal _ _ _ ?_); rw [if_pos rfl]
  show wpAny _ _ (storeSet a (SetTable.insertAt es i (rowE w (p, b))) t1 >>= _) _ _ _
  refine wpAny_bind (write_set (M := L1) ho hex hd rows q3 (fun x hx => (List.mem_cons.mp (pm.mem_iff.mp hx)).elim (fun e => by rw [e]; exact hb) (R.prs x)) pl1 ld1 (by omega) fun h1 sb R1 => ?_)
  rw [List.length_map] at q9
  rcases Bool.eq_false_or_eq_true t1.tooFull with hf | hf
  · have full : t1.mask * 3 ≤ (L.length + 1) * 5 := by
      have := hf
      simpa [SetTable.tooFull, q9] using this
    rw [if_pos (by simp [hf]), cnt]
    have step : ∀ M, SetTable.sizeAbove (SetTable.grown (L.length + 1)) = M + 1 → MaskOk M → (L.length + 1) * 5 < M * 3 → wpAny (model P w) A (setRelay a (SetTable.grown (L.length + 1)) >>= fun _ => pure true) Q E { s with heap := h1 } := fun M m1 m2 m3 =>
      wpAny_bind (relay_new (s := { s with heap := h1 }) R1 (by rw [len, q4]; omega) m1 m2 (by rw [len]; exact m3) fun h2 L2 es2 ep2 t2 sb2 R2 p2 => wpAny_pure (hQ h2 L2 es2 ep2 t2 (sb.trans sb2) R2 (p2.trans pm)))
    rw [q4] at full
    rcases R.tab.mok with m | m | m <;> rw [m] at full gap
    · have e4 : L.length = 4 := by omega
      exact step 31 (by rw [e4, size_20]) (.inr (.inl rfl)) (by omega)
    · have e18 : L.length = 18 := by omega
      exact step 127 (by rw [e18, size_76]) (.inr (.inr rfl)) (by omega)
    · omega
  · rw [if_neg (by simp [hf])]
    refine wpAny_pure (hQ h1 L1 _ _ t1 sb (R1.whole ?_) pm)
    have : ¬ (t1.mask * 3 ≤ (L.length + 1) * 5) := by
      have := hf
      simpa [SetTable.tooFull, q9] using this
    omega
end
end LW

/-! The set is filled; it is sorted; the rule. -/
namespace LW
open PySem PySem.Spec PyProof.Rows L2
open Evl (Ex)

theorem perm_unmap {α β : Type} {f : α → β} {l m : List β} (h : l.Perm m) : ∀ L : List α, m = L.map f → ∃ L' : List α, L'.Perm L ∧ l = L'.map f := by
  induction h with
  | nil =>
    intro L e
    have : L = [] := by simpa using e.symm
    subst this
    exact ⟨[], .nil, rfl⟩
  | cons x _ ih =>
    intro L e
    cases L with
    | nil => simp at e
    | cons y L =>
      rw [List.map_cons, List.cons.injEq] at e
      obtain ⟨L', h1, h2⟩ := ih L e.2
      exact ⟨y :: L', .cons y h1, by rw [e.1, h2]; rfl⟩
  | swap x y l =>
    intro L e
    match L, e with
    | u :: v :: L, e =>
      rw [List.map_cons, List.map_cons, List.cons.injEq, List.cons.injEq] at e
      exact ⟨v :: u :: L, .swap u v L, by rw [e.1, e.2.1, e.2.2]; rfl⟩
    | [u], e => simp at e
    | [], e => simp at e
  | trans _ _ ih1 ih2 =>
    intro L e
    obtain ⟨L2, p2, e2⟩ := ih2 L e
    obtain ⟨L1, p1, e1⟩ := ih1 L2 e2
    exact ⟨L1, p1.trans p2, e1⟩
section
variable {P : Program} {w : World} {A : Around} {E : Value → Shared → Prop} {s : Shared}
/-- an empty set as set() makes it -/
abbrev setNew (w : World) : Obj := { cls := .type "set", dict := none, data := .set #[] 0 (.fresh 0 0 (!w.params.followText "set-order")) }
theorem pset_start {h : Heap} {a : Addr} (ho : h.get? a = some (setNew w)) : PSetAt w h a [] #[] 0 (.fresh 0 0 (!w.params.followText "set-order")) := by
  refine ⟨⟨_, ho, ⟨rfl, rfl, rfl⟩, rfl⟩, rfl, ⟨.nil, rfl, rfl, .inl rfl, (fun x hx => by cases hx), (fun i k j hi => by simp at hi)⟩, (fun x hx => by cases hx), rfl, ?_, (by show 0 < 7 * 3; decide), (by show 0 < 64; decide)⟩
  show (_ ∨ Bool.not _ = true)
  cases w.params.followText "set-order" <;> simp
/-- the set at S holds the first i of ks -/
def Filled (w : World) (ks : List (FP × Addr)) (S : Addr) (i : Nat) (h : Heap) : Prop := ∃ L es ep t, PSetAt w h S L es ep t ∧ L.Perm (ks.take i)
theorem Filled.move {ks : List (FP × Addr)} {S : Addr} {i : Nat} {h h' : Heap} (f : Filled w ks S i h) (ha : ∀ o, h.get? S = some o → h'.get? S = some o) (hp : ∀ x ∈ ks, PrAt h' x.2 x.1) : Filled w ks S i h' := by
  obtain ⟨L, es, ep, t, R, pm⟩ := f
  exact ⟨L, es, ep, t, R.move ha fun x hx => hp x (List.mem_of_mem_take (pm.mem_iff.mp hx)), pm⟩
theorem new_at {ks : List (FP × Addr)} (nd : (ks.map (·.1)).Nodup) {i : Nat} {x : FP × Addr} (hx : ks[i]? = some x) : ∀ y ∈ ks.take i, y.1 ≠ x.1 := fun y hy e => by
  obtain ⟨j, hj, ej⟩ := List.getElem_of_mem hy
  simp only [List.length_take] at hj
  obtain ⟨hi, ex⟩ := List.getElem?_eq_some_iff.mp hx
  have same : (ks.map (·.1))[j]'(by simp; omega) = (ks.map (·.1))[i]'(by simp; omega) := by
    simp only [List.getElem_map, ex, ← e, ← ej, List.getElem_take]
  have := (List.getElem_inj nd).mp same
  omega
/-- one item more -/
theorem fill_one {ks : List (FP × Addr)} (nd : (ks.map (·.1)).Nodup) (few : ks.length < 64) {S : Addr} {i : Nat} {x : FP × Addr} (hx : ks[i]? = some x) (f : Filled w ks S i s.heap) (hb : PrAt s.heap x.2 x.1) (hu : A.units + 8 < cLine) {Q : Bool → Shared → Prop}
    (hQ : ∀ h' tk, s.toks ≤ tk → Heap.SameBut S s.heap h' → Filled w ks S (i + 1) h' → Q true { s with heap := h', toks := tk }) : wpAny (model P w) A (setAdd S (.ref x.2)) Q E s := by
  obtain ⟨L, es, ep, t, R, pm⟩ := f
  have hi := (List.getElem?_eq_some_iff.mp hx).1
  have len : L.length = i := by
    rw [pm.length_eq, List.length_take]
    omega
  unfold setAdd
  refine wpAny_holding (wpAny_bind ((nestedKind P w).pyHash hu hb.nk ?_))
  refine put_new (s := { s with toks := s.toks + (nestedKind P w).draws (fk x.1) }) R hb (fun y hy => new_at nd hx y (pm.mem_iff.mp hy)) hu (by omega) fun h' L' es' ep' t' sb R' p2 => hQ h' _ (Nat.le_add_right _ _) sb ⟨L', es', ep', t', R', ?_⟩
  rw [take_next hx]
  exact p2.trans ((pm.cons _).trans (List.perm_append_singleton x _).symm)
/-- the loop that fills the set -/
theorem fill_loop {I : Addr} {fp wr : List Addr} {G : Array GenState → Array GenState → Prop} {n : Nat} {Pv : Nat → Value → Prop} {St : Nat → Shared → Prop} {R : Result → Shared → Prop} (W : WalksS P w A.in1 I fp wr G n Pv St) {S : Addr} (out : S ∉ fp) {ks : List (FP × Addr)} (hn : n = ks.length)
    (few : ks.length < 64) (nd : (ks.map (·.1)).Nodup) (items : ∀ i v, Pv i v → ∃ x, ks[i]? = some x ∧ v = .ref x.2) {h0 : Heap} (hk : ∀ x ∈ ks, PrAt h0 x.2 x.1) (free : ∀ b ∈ S :: wr, h0.get? b = none) (hu : A.in1.units + 8 < cLine) :
    ∀ (m i : Nat) (s : Shared), i + m = n → St i s → (∀ b o, h0.get? b = some o → s.heap.get? b = some o) → Filled w ks S i s.heap →
      (∀ s', Moved (S :: wr) G s s' → Filled w ks S n s'.heap → (∀ b o, h0.get? b = some o → s'.heap.get? b = some o) → R (.ok (.ret .none)) s') → codeAny (model P w) A (.builtin "set.update.loop" ⟨[.ref S, .ref I], []⟩) R s := by
  have outw : S ∉ wr := fun z => out (W.sub S z)
  have still : ∀ {s s' : Shared}, Moved wr G s s' → (∀ b o, h0.get? b = some o → s.heap.get? b = some o) → ∀ b o, h0.get? b = some o → s'.heap.get? b = some o := fun mv kp b o e =>
    mv.heap b o (fun z => by have := free b (List.mem_cons_of_mem _ z); rw [e] at this; cases this) (kp b o e)
  have wide : ∀ {s s' : Shared}, Moved wr G s s' → Moved (S :: wr) G s s' := fun mv => mv.mono fun b z => List.mem_cons_of_mem _ z
  intro m
  induction m with
  | zero =>
    intro i s ei st kp f hR
    obtain rfl : i = n := ei
    refine codeAny_builtin PyProof.Rows.F.entry_set_update_loop ?_; rw [Around.under_plainId PyProof.Rows.F.plain_set_update_loop _]
    exact wpAny_bind (W.done s _ _ st fun s' mv => wpAny_pure (hR s' (wide mv) (f.move (fun o e => mv.heap S o outw e) fun x hx => (hk x hx).keep (still mv kp)) (still mv kp)))
  | succ m ih =>
    intro i s ei st kp f hR
    refine codeAny_builtin PyProof.Rows.F.entry_set_update_loop ?_; rw [Around.under_plainId PyProof.Rows.F.plain_set_update_loop _]
    refine wpAny_bind (W.item i s _ _ (by omega) st fun v s1 pv st1 mv => ?_)
    obtain ⟨x, hx, rfl⟩ := items i v pv
    have kp1 := still mv kp
    have f1 := f.move (h' := s1.heap) (fun o e => mv.heap S o outw e) fun y hy => (hk y hy).keep kp1
    refine wpAny_bind (wpAny_holding (fill_one nd few hx f1 ((hk x (List.mem_of_getElem? hx)).keep kp1) hu fun h2 tk le sb f2 => ?_))
    have kp2 : ∀ b o, h0.get? b = some o → h2.get? b = some o := fun b o e => (sb.2 b (by rintro rfl; have := free b (by simp); rw [e] at this; cases this)).trans (kp1 b o e)
    refine wpAny_pure ⟨plainId_quiet PyProof.Rows.F.plain_set_update_loop _, ih (i + 1) _ (by omega) (W.frame _ s1 _ _ st1 le fun b z o e => (sb.2 b (by rintro rfl; exact out z)).trans e) kp2 f2 fun s3 mv3 f3 kp3 => hR s3 ?_ f3 kp3⟩
    exact Moved.trans W.gtrans ((wide mv).then_heap le fun b o z e => (sb.2 b (by rintro rfl; exact z (by simp))).trans e) mv3
theorem wants_of {Q : Value → Shared → Prop} {E : Value → Shared → Prop} {r : Result} {s : Shared} (h : wants Q E r s) : (∃ e, r = .error e ∧ E e s) ∨ ∃ v, r = .ok (.ret v) ∧ Q v s := by
  rcases r with e | fl
  · exact .inl ⟨e, rfl, h⟩
  · cases fl <;> first | exact .inr ⟨_, rfl, h⟩ | exact h.elim
set_option maxHeartbeats 6400000 in
/-- set(t), t a tuple of distinct pairs -/
theorem set_of_pairs {l : Addr} {items : Array Value} {ks : List (FP × Addr)} {Q : Value → Shared → Prop} (hh : A.handled = none) (tup : s.heap.IsTuple l items) (hit : items.toList = ks.map fun x => Value.ref x.2) (hk : ∀ x ∈ ks, PrAt s.heap x.2 x.1) (nd : (ks.map (·.1)).Nodup) (few : ks.length < 64)
    (hu : A.units + 20 < cLine) (hQ : ∀ (h' : Heap) (tk : Nat), Filled w ks s.heap.objs.size ks.length h' → (∀ b o, s.heap.get? b = some o → h'.get? b = some o) → Q (.ref s.heap.objs.size) { s with heap := h', toks := tk }) : wpAny (model P w) A (call (.type "set") [.ref l]) Q E s := by
  have cnt : ks.length = items.size := by
    rw [← Array.length_toList, hit, List.length_map]
  -- type.__call__
  obtain ⟨⟨_, _, mro⟩, made, sub, notType, can, one⟩ := And.intro F.called_set.mro (And.intro F.called_set.made (And.intro F.called_set.sub (And.intro F.called_set.notType (And.intro F.called_set.canCreate (F.typeCall_set_1 (.ref l))))))
  refine wpAny_call (codeAny_of_tree (wpAny_pure ⟨Code.quiet_builtin _ (by decide +kernel), codeAny_builtin F.entry_type_call ?_⟩)); rw [Around.under_plain (weight_type_call_type "set" [.ref l] []) rfl]
  repeat any_goals (first | wp_step | assumption)
  -- set.__new__
  refine codeAny_mono (code_set_led1 (.ref l) (E := E) (Q₁ := fun v s1 => v = .ref s.heap.objs.size ∧ s1 = { s with heap := s.heap.push (setNew w) }) ⟨rfl, rfl⟩) fun res s1 hres => ?_
  rcases wants_of hres with ⟨e, rfl, he⟩ | ⟨v, rfl, rfl, rfl⟩
  · exact he
  · skip
    have new : (s.heap.push (setNew w)).get? s.heap.objs.size = some (setNew w) := Heap.get?_push_size _ rfl
    obtain ⟨look, bind⟩ := And.intro F.called_set.init.lookup (F.called_set.init.bind (.ref s.heap.objs.size))
    have isSet : Shared.TypeIs { s with heap := s.heap.push (setNew w) } (.ref s.heap.objs.size) "set" := ⟨_, new, rfl⟩
    repeat any_goals (first | wp_step | assumption)
    -- set.__init__
    refine codeAny_mono (codeAny_call_builtin (R := wants (fun v s2 => v = .none ∧ ∃ h2 tk, s2 = { s with heap := h2, toks := tk } ∧ Filled w ks s.heap.objs.size ks.length h2 ∧ ∀ b o, s.heap.get? b = some o → h2.get? b = some o) E) F.called_set.init.plain F.entry_set_init (check_set_init_1 isSet ?_)) fun res2 s2 hres2 => ?_
    · obtain ⟨⟨cl, dict, data, slots⟩, there, rfl, n, rfl⟩ := tup
      have there1 : (s.heap.push (setNew w)).get? l = some { cls := .type "tuple", dict := dict, data := .seq items n, slots := slots } := Heap.get?_push_of_some _ there
      obtain ⟨subS, subF⟩ := And.intro F.sub_tuple_set F.sub_tuple_frozenset
      have noDict : (Value.type "tuple" == Value.type "dict") = false := rfl
      have tup1 : (s.heap.push (setNew w)).IsTuple l items := ⟨_, there1, rfl, n, rfl⟩
      unfold Builtin.«set.__init__» noKeywords Builtin.Frozenset.updateFrom; generalize hit_ : pyIter = it_; wp_walk; subst hit_
      refine wpAny_pyIter_tuple tup1 (wpAny_bind (wpAny_runValue ?_))
      obtain ⟨lt, sz⟩ := And.intro (Heap.lt_size there) (Heap.size_push (h := s.heap) (o := setNew w))
      have gone : ∀ b, s.heap.objs.size ≤ b → s.heap.get? b = none := fun b hb => Option.eq_none_iff_forall_ne_some.mpr fun o e => absurd (Heap.lt_size e) (Nat.not_lt.mpr hb)
      refine fill_loop (S := s.heap.objs.size) (h0 := s.heap) ((Walks.tuple (by simp [hh]) _ l (by rw [sz]; exact Nat.ne_of_lt (Nat.lt_succ_of_lt lt)) items).toS) (by rw [sz]; simp only [List.mem_cons, List.not_mem_nil, or_false, not_or]; exact ⟨Nat.ne_of_lt (Nat.lt_succ_self _), Nat.ne_of_gt lt⟩) cnt.symm few nd (fun i v hv => ?_) hk
        (fun b hb => gone b ?_) (by show A.units + 1 + 1 + 1 + 8 < cLine; omega) items.size 0 _ (Nat.zero_add _) ⟨⟨_, Heap.get?_push_size _ rfl, rfl, rfl⟩, tup1.push _⟩ (fun b o e => Heap.get?_push_of_some _ (Heap.get?_push_of_some _ e)) ⟨[], #[], 0, _, pset_start (Heap.get?_push_of_some _ new), .nil⟩ fun s3 mv f3 kp3 => ?_
      · have here : items.toList[i]? = some v := by rw [Array.getElem?_toList]; exact hv
        rw [hit, List.getElem?_map, Option.map_eq_some_iff] at here
        obtain ⟨x, hx, e⟩ := here
        exact ⟨x, hx, e.symm⟩
      · rcases List.mem_cons.mp hb with rfl | hb
        · exact Nat.le_refl _
        · rw [List.mem_singleton.mp hb, sz]
          exact Nat.le_succ _
      · rw [Moved.eq_with mv]
        rw [← cnt] at f3
        exact wpAny_pure (wpAny_pure ⟨rfl, s3.heap, s3.toks, rfl, f3, kp3⟩)
    · rcases wants_of hres2 with ⟨e, rfl, he⟩ | ⟨v, rfl, rfl, h2, tk, rfl, f2, kp2⟩
      · exact he
      · repeat any_goals (first | wp_step | assumption)
        exact hQ _ _ f2 kp2
end
theorem refs_are : ∀ {xs : List (FP × Addr)} {us : List Value}, Vals (xs.map fun x => V.ref x.2) us → us = xs.map fun x => Value.ref x.2
  | [], _, r => by cases r; rfl
  | x :: xs, _, r => by
    cases r with
    | cons h t =>
      cases h
      rw [refs_are t]
      rfl
theorem each_refs : ∀ (l : List (FP × Addr)), PySem.W.EachIs (fun u (x : FP × Addr) => u = .ref x.2) (l.map fun x => Value.ref x.2) l
  | [] => .nil
  | x :: l => .cons rfl (each_refs l)
section
variable {X : Cx} {pins : List (Addr × Obj)} {σ : L2.St} {H : Hp} {s : Shared}
theorem Inv.prAt (I : L2.Inv X pins σ H s) {t : Addr} {p : FP} (h : IsP H t p) : PrAt s.heap t p := by
  obtain ⟨t2, h1, h2⟩ := h
  obtain ⟨its, rv, ⟨o, ho, hc, n, hd⟩, _⟩ := I.tuple (SqT.of h1)
  obtain ⟨its2, rv2, ⟨o2, ho2, hc2, n2, hd2⟩, _⟩ := I.tuple (SqT.of h2)
  cases rv with
  | cons r1 rr =>
    cases rr with
    | cons r2 rr =>
      cases rr
      cases r1
      obtain ⟨k, rfl⟩ := r2
      exact ⟨t2, its2, k, ⟨o, n, ho, hc, hd⟩, ⟨o2, n2, ho2, hc2, hd2⟩, rv2⟩
def tSortSet (K : PySem.W.Frag) (ta : TE) : TE := fun σ H Q => ta σ H fun x H1 => ∃ (l : Addr) (xs : List (FP × Addr)), x = .ref l ∧ SqT K H1 l (xs.map fun x => V.ref x.2) ∧ (∀ x ∈ xs, IsP H1 x.2 x.1) ∧ (xs.map (·.1)).Nodup ∧ xs.length < 64 ∧
  ∀ (ys : List (FP × Addr)) p, ys.Perm xs → H1 p = none → Q (.ref p) (upd H1 p (.lst ((ys.mergeSort (leD fun x => prD x.1)).map fun x => V.ref x.2)))
theorem pe_sortedSet {o : Expr} {to : TE} {p p2 pos pos2 : Pos} (hm : X.mg "sorted" = none) (hm2 : X.mg "set" = none) (hc : X.calm = true) (hu : X.A.units + 65 < cLine) (ho : PE X o to) (hg : Gl X "sorted" := by rfl) (hg2 : Gl X "set" := by rfl)
    (hs2 : starEach [o] X.env = [(false, eval o X.env)] := by rfl) :
    PE X (.Call (.Name "sorted" p) [.Call (.Name "set" p2) [o] [] pos2] [] pos) (tSortSet X.K to) := by
  refine ⟨fun pins s σ H Q I h => ?_⟩
  have bs : bootBuiltins "sorted" = some (.builtin "sorted") := by decide +kernel
  refine Call_ (ld_blt I hg hm bs ?_)
  refine PyProof.Rows.callWith_builtin1 (PyProof.Rows.args_cons ?_ rfl) rfl rfl
  refine Call_ (ld_blt I hg2 hm2 PyProof.Rows.boot_set (PyProof.Rows.callWith_type1 (PyProof.Rows.args_cons (thn (ho.run pins s σ H _ I h) fun u s1 ⟨x, H1, I1, rx, l, xs, ex, hl, hx, nd, few, q⟩ => PyProof.Rows.args_nil ?_) hs2) hs2 rfl))
  subst ex
  cases rx
  obtain ⟨its, rv, pt, hz⟩ := I1.tuple hl
  refine set_of_pairs (ks := xs) (I1.ok.hd hc) (show s1.heap.IsTuple l its.toArray from pt) (by simpa using refs_are rv) (fun x hx' => Inv.prAt I1 (hx x hx')) nd few (by omega) fun h' tk ⟨L, es, ep, t, R, pm⟩ k => ?_
  rw [List.take_length] at pm
  refine PyProof.Rows.args_nil ?_
  have I2 : L2.Inv X pins σ H1 { s1 with heap := h', toks := tk } := I1.kept (t' := tk) fun b ob e => k b ob e
  obtain ⟨so, hso, hex, hd⟩ := R.obj
  exact sort_finish I2 hc hu (R := fun u (x : FP × Addr) => u = .ref x.2) (fun x => prD x.1) xs (fun x => V.ref x.2) (fun u x e => by rw [e]; rfl)
    (fun R' E' kk => collect_set (A := X.A.in1) (I2.ok.hd hc) ⟨so, hso, hex.1, hd⟩ R.fits (by rw [R.cnt]; have := R.few; unfold scanBound; omega) R.tab.ris R.led fun s2 vs k1 hz2 g1 o1 pm2 => by
      rw [R.ent, List.map_map] at pm2
      obtain ⟨L', pL, rfl⟩ := perm_unmap (f := fun x : FP × Addr => Value.ref x.2) pm2 L rfl
      exact kk _ s2 L' k1 hz2 g1 o1 (pL.trans pm) (each_refs L'))
    (fun h2 k2 v b hb e => by
      rw [e]
      exact Inv.readsP I2 (hx b hb) k2)
    (fun b c => alike_prD _ _) (fun b => ⟨_, _, rfl⟩) (size_ok (by omega)) (fun b _ => depth_prD _) q
end
theorem de_sortSet {K : PySem.W.Frag} {env : EnvT} {te : TE} {ps : List FP} (h : DE te env (.tuple (ps.map prD))) (nd : ps.Nodup) (few : ps.length < 64) : DE (tSortSet K te) env (.list ((ps.mergeSort (leD prD)).map prD)) := fun B σ H Q e o k =>
  h B σ H _ e o fun v B1 H1 w1 d1 => by
    cases d1 with
    | @tup l vs _ h1 h2 =>
      have gen : ∀ (ps : List FP) (vs : List V), DdA B1 vs (ps.map prD) → ∃ xs : List (FP × Addr), vs = xs.map (fun x => V.ref x.2) ∧ xs.map (·.1) = ps ∧ ∀ x ∈ xs, Dd B1 (.ref x.2) (prD x.1) := by
        intro ps
        induction ps with
        | nil => intro vs h; cases h; exact ⟨[], rfl, rfl, fun x hx => by cases hx⟩
        | cons p ps ih =>
          intro vs h
          cases h with
          | cons h1 h2 =>
            obtain ⟨xs, e1, e2, e3⟩ := ih _ h2
            obtain ⟨t, rfl, _⟩ := h1.isP (Ex.refl B1)
            refine ⟨(p, t) :: xs, by rw [e1]; rfl, by rw [List.map_cons, e2], fun x hx => ?_⟩
            rcases List.mem_cons.mp hx with e | hx
            · rw [e]; exact h1
            · exact e3 x hx
      obtain ⟨xs, rfl, e2, e3⟩ := gen ps vs h2
      refine ⟨l, xs, rfl, SqT.of (w1.i _ _ h1), fun x hx => ?_, by rw [e2]; exact nd, by rw [← e2, List.length_map] at few; exact few, fun ys p pm hp => k _ _ _ (w1.trans (Wd.new w1.i hp)) (.lst upd_same ?_)⟩
      · obtain ⟨t, et, ht⟩ := (e3 x hx).isP w1.i
        cases et
        exact ht
      · have g : DdA B1 ((ys.mergeSort (leD fun x => prD x.1)).map fun x => V.ref x.2) ((ys.mergeSort (leD fun x => prD x.1)).map fun x => prD x.1) := by
          have gen2 : ∀ l : List (FP × Addr), (∀ x ∈ l, Dd B1 (.ref x.2) (prD x.1)) → DdA B1 (l.map fun x => V.ref x.2) (l.map fun x => prD x.1) := by
            intro l
            induction l with
            | nil => intro _; exact .nil
            | cons x l ih => intro hl; exact .cons (hl x (by simp)) (ih fun y hy => hl y (List.mem_cons_of_mem _ hy))
          exact gen2 _ fun x hx => e3 x (pm.mem_iff.mp (List.mem_mergeSort.mp hx))
        have s1 := PySem.W.sort_maps (r := leD (fun x : FP × Addr => prD x.1)) (s := leD prD) (fun x : FP × Addr => x.1) (l := ys) fun a _ b _ => rfl
        have s2 : (ys.map (·.1)).mergeSort (leD prD) = ps.mergeSort (leD prD) := sort_perm anti_prD (by rw [← e2]; exact pm.map _)
        have s3 : ((ys.mergeSort (leD fun x => prD x.1)).map fun x => prD x.1) = (ps.mergeSort (leD prD)).map prD := by
          rw [← s2, ← s1, List.map_map]
          rfl
        rw [s3] at g
        exact g.up (Ex.new (w1.i.back hp))
end LW

namespace LW
open PySem PySem.Spec PyProof.Rows L2
open Evl (Ex)
variable {P : Program} {w : World} {K : PySem.W.Frag} {mg : Str → Option Value} {base : Heap}

abbrev nm_is_in : List Str := ["value", "least", "most"]
abbrev st_is_in : Stmt := topS 5
theorem sc_is_in : FnScope nm_is_in ["value", "least", "most"] (defScope st_is_in) := ⟨rfl, rfl, rfl, by decide +kernel, rfl, by decide +kernel, by decide +kernel⟩
def gIsIn (ds : List PyData) (r : PyData) : Prop := ∃ v lo hi : Int, ds = [.int v, .int lo, .int hi] ∧ r = .bool (decide (lo ≤ v) && decide (v ≤ hi))
theorem ok_is_in (T : Txt mg) {f : Addr} {fd : FuncData} (F : Stands K mg "is_in" st_is_in f fd) : CalAt P w K mg base "is_in" 1 f fd ["value", "least", "most"] (spD gIsIn) := by
  refine ⟨F.fn.ok sc_is_in (fun vs H Q E h => spD_len h (by rintro ds r ⟨v, lo, hi, rfl, _⟩; rfl)) (fun cdv A outer s H vs Q E hr h => ?_), F.gl, F.fn.kp, F.fn.binds fun _ _ _ _ _ _ us hl => match us, hl with | [_, _, _], _ => rfl⟩
  refine ⟨_, (pss_one (ps_ret (pe_and (pe_callB (r := rIsi K) call_isi (by rfl) T.n_isinstance (by decide +kernel) (pa_cons (pv 0) (pa_cons (pe_bltn (v := .ty "int") (u := .type "int") (by rfl) T.n_int (by decide +kernel) rfl) pa_nil))) (pe_and (pe_not (pe_callB (r := rIsi K) call_isi (by rfl) T.n_isinstance (by decide +kernel) (pa_cons (pv 0) (pa_cons (pe_bltn (v := .ty "bool") (u := .type "bool") (by rfl) T.n_bool (by decide +kernel) rfl) pa_nil)))) (pe_one (pe_chain op_le op_le (pv 1) (pv 0) (pv 2))))))), ?_⟩
  refine run_spD h ?_
  rintro ds r ⟨v, lo, hi, rfl, rfl⟩ b D hD
  refine go_ret (d := .bool (decide (lo ≤ v) && decide (v ≤ hi))) ?_ hD.rt
  refine de_is (de_andV (de_isi (de_var rfl) kit_int_int) fun _ => de_andV (de_notV (de_isi (de_var rfl) kit_int_bool)) fun _ => de_chainI (de_var rfl) (de_var rfl) (de_var rfl)) ?_
  simp

abbrev nm_dot : List Str := ["one", "other", "x", "y"]
abbrev st_dot : Stmt := topS 8
theorem sc_dot : FnScope nm_dot ["one", "other"] (defScope st_dot) := ⟨rfl, rfl, rfl, by decide +kernel, rfl, by decide +kernel, by decide +kernel⟩
def dotM (a b : List Int) : Int := (List.zipWith (· * ·) a b).sum
/-- no entry is great -/
def Sm (l : List Int) : Prop := ∀ x ∈ l, -(2 ^ 64) < x ∧ x < 2 ^ 64
def gDot (ds : List PyData) (r : PyData) : Prop := ∃ a b : List Int, ds = [tI a, tI b] ∧ Sm a ∧ a.length ≤ 100 ∧ r = .int (dotM a b)
theorem zip_enc (a b : List Int) : List.zipWith (fun x y => PyData.tuple [x, y]) (a.map .int) (b.map .int) = (List.zip a b).map fun p => PyData.tuple [.int p.1, .int p.2] := by
  induction a generalizing b with
  | nil => rfl
  | cons x a ih =>
    cases b with
    | nil => rfl
    | cons y b => simp [ih b]
theorem zip_map (f : Int → Int → Int) (a b : List Int) : (List.zip a b).map (fun p => PyData.int (f p.1 p.2)) = (List.zipWith f a b).map PyData.int := by
  induction a generalizing b with
  | nil => rfl
  | cons x a ih =>
    cases b with
    | nil => rfl
    | cons y b => simp [ih b]
theorem ok_dot (T : Txt mg) {f : Addr} {fd : FuncData} (F : Stands K mg "dot" st_dot f fd) : CalAt P w K mg base "dot" 1 f fd ["one", "other"] (spD gDot) := by
  refine ⟨F.fn.ok sc_dot (fun vs H Q E h => spD_len h (by rintro ds r ⟨a, b, rfl, _⟩; rfl)) (fun cdv A outer s H vs Q E hr h => ?_), F.gl, F.fn.kp, F.fn.binds fun _ _ _ _ _ _ us hl => match us, hl with | [_, _], _ => rfl⟩
  refine ⟨_, (pss_one (ps_ret (pe_callB (r := rSum K) (cr_sum rfl) (by rfl) T.n_sum (by decide +kernel) (pa_cons (pe_lc (own := [("x", 2), ("y", 3)]) (g := (gTup K 2 (gCons (gName 2) (gCons (gName 3) gNil)))) (tt := tYes) rfl sc_dot.nd (RZ.pi_zipA (by rfl) T.n_zip (pa_cons (pv 0) (pa_cons (pv 1) pa_nil))) (blkOk_by (N := nm_dot) (sc := (defScope st_dot)) (by decide +kernel)) (fun _ _ _ _ _ => (pg_tup rfl (pgs_cons (pg_name (i := 2) sc_dot.nd rfl (Or.inl rfl)) (pgs_cons (pg_name (i := 3) sc_dot.nd rfl (Or.inl rfl)) pgs_nil)))) (fun _ _ _ _ _ => pts_nil) (fun _ _ _ _ _ => (pe_op op_mul (pv 2) (pv 3)))) pa_nil)))), ?_⟩
  refine run_spD h ?_
  rintro ds r ⟨x, y, rfl, sx, lx, rfl⟩ b D hD
  refine go_ret ?_ hD.rt
  refine de_cb (da_cons (de_is (de_map (xs := List.zip x y) (enc := fun p => .tuple [.int p.1, .int p.2]) (f := fun p => .int (p.1 * p.2)) (js := [2, 3]) (by rw [← zip_enc]; exact di_zip (da_cons (de_var rfl) (da_cons (de_var rfl) da_nil))) (by rw [List.length_zip]; omega) (by decide)
    (fun p hp => dg_pair) fun p hp => de_mul (de_var rfl) (de_var rfl) (.inl (sx _ (List.of_mem_zip hp).1))) (by rw [zip_map (· * ·)])) da_nil) dc_sum
end LW

namespace LW
open PySem PySem.Spec PyProof.Rows L2
open Evl (Ex)
variable {P : Program} {w : World} {K : PySem.W.Frag} {mg : Str → Option Value} {base : Heap}

abbrev nm_gcd : List Str := ["one", "other"]
abbrev st_gcd : Stmt := topS 6
theorem sc_gcd : FnScope nm_gcd ["one", "other"] (defScope st_gcd) := ⟨rfl, rfl, rfl, by decide +kernel, rfl, by decide +kernel, by decide +kernel⟩
def gGcd (ds : List PyData) (r : PyData) : Prop := ∃ a b : Int, ds = [.int a, .int b] ∧ r = .int (Int.gcd a b)
theorem ok_gcd (T : Txt mg) {f : Addr} {fd : FuncData} (F : Stands K mg "gcd" st_gcd f fd) : CalAt P w K mg base "gcd" 1 f fd ["one", "other"] (spD gGcd) := by
  refine ⟨F.fn.ok sc_gcd (fun vs H Q E h => spD_len h (by rintro ds r ⟨a, b, rfl, _⟩; rfl)) (fun cdv A outer s H vs Q E hr h => ?_), F.gl, F.fn.kp, F.fn.binds fun _ _ _ _ _ _ us hl => match us, hl with | [_, _], _ => rfl⟩
  refine ⟨_, (pss_cons (ps_par (i := 0) (j := 1) (by rfl) sc_gcd.nd rfl rfl (by decide) rfl rfl (pa_cons (pe_callB call_abs (by rfl) T.n_abs (by decide +kernel) (pa_cons (pv 0) pa_nil)) (pa_cons (pe_callB call_abs (by rfl) T.n_abs (by decide +kernel) (pa_cons (pv 1) pa_nil)) pa_nil)) (by rfl))
      (pss_cons (ps_while PassesOwn.never (pt_cmpR (r := rNeD K) (op_neD hr.units) (pv 1) pe_int (nomark _)) (pss_one (ps_par (i := 0) (j := 1) (by rfl) sc_gcd.nd rfl rfl (by decide) rfl rfl (pa_cons (pv 1) (pa_cons (pe_op op_mod (pv 0) (pv 1)) pa_nil)) (by rfl))))
      (pss_one (ps_ret (pv 0))))), ?_⟩
  refine run_spD h ?_
  rintro ds r ⟨x, y, rfl, rfl⟩ b D hD
  refine gs_par (da_cons (de_cb (da_cons (de_var rfl) da_nil) dc_abs) (da_cons (de_cb (da_cons (de_var rfl) da_nil) dc_abs) da_nil)) ?_
  refine gs_while (S := { p : Nat × Nat // Nat.gcd p.1 p.2 = Int.gcd x y }) (fun s => [.dat (.int s.1.1), .dat (.int s.1.2)]) (fun s => s.1.2) ⟨(x.natAbs, y.natAbs), rfl⟩ (LeE.refl _) ?_
  rintro ⟨⟨m, n⟩, hmn⟩
  refine ⟨!PyData.eqv (.int n) (.int 0), dt_test (de_ne (de_var rfl) de_int rfl rfl), fun hc => ?_, fun hc => ?_⟩
  · have hn : n ≠ 0 := by
      rintro rfl
      simp [PyData.eqv] at hc
    refine ⟨⟨(n, m % n), by rw [← hmn]; show Nat.gcd n (m % n) = Nat.gcd m n; rw [Nat.gcd_comm m n, Nat.gcd_rec n m, Nat.gcd_comm]⟩, Nat.mod_lt _ (Nat.pos_of_ne_zero hn), ?_⟩
    refine go_par (da_cons (de_var rfl) (da_cons (de_mod (de_var rfl) (de_var rfl) (by show (0 : Int) < (n : Int); omega)) da_nil)) ?_
    exact go_end (LeE.refl _)
  · have hn : n = 0 := by
      simp [PyData.eqv] at hc
      exact hc
    subst hn
    have e : m = Int.gcd x y := by rw [← hmn]; show m = Nat.gcd m 0; rw [Nat.gcd_zero_right]
    exact go_ret (de_is (de_var rfl) (show PyData.int (m : Int) = _ by rw [e])) hD.rt

abbrev nm_less : List Str := ["one", "other", "x", "y"]
abbrev st_less : Stmt := topS 9
theorem sc_less : FnScope nm_less ["one", "other"] (defScope st_less) := ⟨rfl, rfl, rfl, by decide +kernel, rfl, by decide +kernel, by decide +kernel⟩
def lessM (a b : List Int) : List Int := List.zipWith (· - ·) a b
def gLess (ds : List PyData) (r : PyData) : Prop := ∃ a b : List Int, ds = [tI a, tI b] ∧ a.length ≤ 100 ∧ r = tI (lessM a b)
theorem ok_less (T : Txt mg) {f : Addr} {fd : FuncData} (F : Stands K mg "less" st_less f fd) : CalAt P w K mg base "less" 1 f fd ["one", "other"] (spD gLess) := by
  refine ⟨F.fn.ok sc_less (fun vs H Q E h => spD_len h (by rintro ds r ⟨a, b, rfl, _⟩; rfl)) (fun cdv A outer s H vs Q E hr h => ?_), F.gl, F.fn.kp, F.fn.binds fun _ _ _ _ _ _ us hl => match us, hl with | [_, _], _ => rfl⟩
  refine ⟨_, (pss_one (ps_ret (pe_callTy (r := rTupD K) call_tuple_of (by rfl) T.n_tuple (by decide +kernel) (pa_cons (pe_lc (own := [("x", 2), ("y", 3)]) (g := (gTup K 2 (gCons (gName 2) (gCons (gName 3) gNil)))) (tt := tYes) rfl sc_less.nd (RZ.pi_zipA (by rfl) T.n_zip (pa_cons (pv 0) (pa_cons (pv 1) pa_nil))) (blkOk_by (N := nm_less) (sc := (defScope st_less)) (by decide +kernel)) (fun _ _ _ _ _ => (pg_tup rfl (pgs_cons (pg_name (i := 2) sc_less.nd rfl (Or.inl rfl)) (pgs_cons (pg_name (i := 3) sc_less.nd rfl (Or.inl rfl)) pgs_nil)))) (fun _ _ _ _ _ => pts_nil) (fun _ _ _ _ _ => (pe_op op_sub (pv 2) (pv 3)))) pa_nil)))), ?_⟩
  refine run_spD h ?_
  rintro ds r ⟨x, y, rfl, lx, rfl⟩ b D hD
  refine go_ret ?_ hD.rt
  refine de_cb (da_cons (de_is (de_map (xs := List.zip x y) (enc := fun p => .tuple [.int p.1, .int p.2]) (f := fun p => .int (p.1 - p.2)) (js := [2, 3]) (by rw [← zip_enc]; exact di_zip (da_cons (de_var rfl) (da_cons (de_var rfl) da_nil))) (by rw [List.length_zip]; omega) (by decide)
    (fun p hp => dg_pair) fun p hp => de_sub (de_var rfl) (de_var rfl)) (by rw [zip_map (· - ·)]; rfl)) da_nil) (dc_tuple (.l _))

abbrev nm_scaled : List Str := ["factor", "one", "x"]
abbrev st_scaled : Stmt := topS 10
theorem sc_scaled : FnScope nm_scaled ["factor", "one"] (defScope st_scaled) := ⟨rfl, rfl, rfl, by decide +kernel, rfl, by decide +kernel, by decide +kernel⟩
def gScaled (ds : List PyData) (r : PyData) : Prop := ∃ (c : Int) (a : List Int), ds = [.int c, tI a] ∧ (-(2 ^ 64) < c ∧ c < 2 ^ 64) ∧ a.length ≤ 100 ∧ r = tI (a.map (c * ·))
theorem ok_scaled (T : Txt mg) {f : Addr} {fd : FuncData} (F : Stands K mg "scaled" st_scaled f fd) : CalAt P w K mg base "scaled" 1 f fd ["factor", "one"] (spD gScaled) := by
  refine ⟨F.fn.ok sc_scaled (fun vs H Q E h => spD_len h (by rintro ds r ⟨a, b, rfl, _⟩; rfl)) (fun cdv A outer s H vs Q E hr h => ?_), F.gl, F.fn.kp, F.fn.binds fun _ _ _ _ _ _ us hl => match us, hl with | [_, _], _ => rfl⟩
  refine ⟨_, (pss_one (ps_ret (pe_callTy (r := rTupD K) call_tuple_of (by rfl) T.n_tuple (by decide +kernel) (pa_cons (pe_lc (own := [("x", 2)]) (g := (gName 2)) (tt := tYes) rfl sc_scaled.nd (pi_tup (pv 1)) (blkOk_by (N := nm_scaled) (sc := (defScope st_scaled)) (by decide +kernel)) (fun _ _ _ _ _ => (pg_name (i := 2) sc_scaled.nd rfl (Or.inl rfl))) (fun _ _ _ _ _ => pts_nil) (fun _ _ _ _ _ => (pe_op op_mul (pv 0) (pv 2)))) pa_nil)))), ?_⟩
  refine run_spD h ?_
  rintro ds r ⟨c, x, rfl, hc, lx, rfl⟩ b D hD
  refine go_ret ?_ hD.rt
  refine de_is (de_cb (da_cons (de_map (xs := x) (enc := .int) (f := fun v => .int (c * v)) (js := [2]) (di_tup (de_var rfl)) (by omega) (by decide) (fun _ _ => dg_name) fun p hp => de_mul (de_var rfl) (de_var rfl) (.inl hc)) da_nil) (dc_tuple (.l _))) ?_
  simp [tI, Function.comp_def]

abbrev nm_primitive : List Str := ["one", "common", "x"]
abbrev st_primitive : Stmt := topS 14
theorem sc_primitive : FnScope nm_primitive ["one"] (defScope st_primitive) := ⟨rfl, rfl, rfl, by decide +kernel, rfl, by decide +kernel, by decide +kernel⟩
def gcdL (a : List Int) : Nat := a.foldl (fun (c : Nat) x => Int.gcd c x) 0
def primM (a : List Int) : List Int := if 1 < gcdL a then a.map (· / (gcdL a : Int)) else a
def gPrim (ds : List PyData) (r : PyData) : Prop := ∃ a : List Int, ds = [tI a] ∧ a.length ≤ 100 ∧ gcdL a < 2 ^ 64 ∧ r = tI (primM a)
theorem ok_primitive (T : Txt mg) (C_gcd : ∃ f fd, CalAt P w K mg base "gcd" 1 f fd ["one", "other"] (spD gGcd)) {f : Addr} {fd : FuncData} (F : Stands K mg "primitive" st_primitive f fd) : CalAt P w K mg base "primitive" 2 f fd ["one"] (spD gPrim) := by
  obtain ⟨_, _, C_gcd⟩ := C_gcd
  refine ⟨F.fn.ok sc_primitive (fun vs H Q E h => spD_len h (by rintro ds r ⟨a, rfl, _⟩; rfl)) (fun cdv A outer s H vs Q E hr h => ?_), F.gl, F.fn.kp, F.fn.binds fun _ _ _ _ _ _ us hl => match us, hl with | [_], _ => rfl⟩
  refine ⟨_, (pss_cons (ps_set (i := 1) sc_primitive.nd rfl (Or.inr rfl) pe_int)
      (pss_cons (ps_for PassesOwn.never rfl (pi_tup (pv 0)) (pg_name (i := 2) sc_primitive.nd rfl (Or.inl rfl)) (pss_one (ps_set (i := 1) sc_primitive.nd rfl (Or.inr rfl) (pe_call C_gcd.ok (hr.mono (by first | decide | omega)) (by rfl) C_gcd.gl C_gcd.kp C_gcd.bi .nil pass0 (pa_cons (pv 1) (pa_cons (pv 2) pa_nil))))))
      (pss_one (ps_ret (pe_ifExp (pt_cmpR op_gt (pv 1) pe_int (nomark _)) (pe_callTy (r := rTupD K) call_tuple_of (by rfl) T.n_tuple (by decide +kernel) (pa_cons (pe_lc (own := [("x", 2)]) (g := (gName 2)) (tt := tYes) rfl sc_primitive.nd (pi_tup (pv 0)) (blkOk_by (N := nm_primitive) (sc := (defScope st_primitive)) (by decide +kernel)) (fun _ _ _ _ _ => (pg_name (i := 2) sc_primitive.nd rfl (Or.inl rfl))) (fun _ _ _ _ _ => pts_nil) (fun _ _ _ _ _ => (pe_op op_fdivW (pv 2) (pv 1)))) pa_nil)) (pe_callTy (r := rTupD K) call_tuple_of (by rfl) T.n_tuple (by decide +kernel) (pa_cons (pv 0) pa_nil))))))), ?_⟩
  refine run_spD h ?_
  rintro ds r ⟨x, rfl, lx, hg, rfl⟩ b D hD
  refine gs_asg de_int ?_
  refine gs_forN (xs := x) (enc := .int) (fun pre => [.dat (tI x), .dat (.int (gcdL pre)), .any]) (fun _ => True) (di_tup (de_var rfl)) (LeE.refl _) trivial (fun pre v post c e _ h1 h2 => ?_) fun _ => ?_
  · refine go_asg (d := .int (gcdL (pre ++ [v]))) (de_call (da_cons (de_var rfl) (da_cons (de_var rfl) da_nil)) ⟨_, _, rfl, ?_⟩) (go_turn trivial (.eq (.eq (.any .nil))))
    rw [gcdL, List.foldl_append]
    rfl
  · refine go_ret (d := tI (primM x)) (de_if (b := decide (1 < gcdL x)) (dt_is (dt_test (de_cmp (p := fun i j => decide (j < i)) (de_var rfl) de_int)) (by
      apply decide_eq_decide.mpr
      show (1 : Int) < (gcdL x : Int) ↔ _
      omega)) (fun h => ?_) fun h => ?_) hD.rt
    · have h := of_decide_eq_true h
      unfold primM
      rw [if_pos h]
      refine de_is (de_cb (da_cons (de_map (xs := x) (enc := .int) (f := fun v => .int (v / (gcdL x : Int))) (js := [2]) (di_tup (de_var rfl)) (by omega) (by decide) (fun _ _ => dg_name) fun p hp => de_div (de_var rfl) (de_var rfl) (wide_div (b := 64) (by omega) (by simpa using hg) (by decide) (by decide))) da_nil) (dc_tuple (.l _))) ?_
      simp [tI, Function.comp_def]
    · have h := of_decide_eq_false h
      unfold primM
      rw [if_neg h]
      exact de_cb (da_cons (de_var rfl) da_nil) (dc_tuple (.t _))

abbrev nm_is_vector : List Str := ["value", "size", "low", "high", "x"]
abbrev st_is_vector : Stmt := topS 15
theorem sc_is_vector : FnScope nm_is_vector ["value", "size", "low", "high"] (defScope st_is_vector) := ⟨rfl, rfl, rfl, by decide +kernel, rfl, by decide +kernel, by decide +kernel⟩
def gIsVec (ds : List PyData) (r : PyData) : Prop := ∃ (a : List Int) (n lo hi : Int), ds = [tI a, .int n, .int lo, .int hi] ∧ a.length ≤ 100 ∧ (a.length : Int) = n ∧ (∀ x ∈ a, lo ≤ x ∧ x ≤ hi) ∧ r = .bool true
theorem ok_is_vector (T : Txt mg) (C_is_in : ∃ f fd, CalAt P w K mg base "is_in" 1 f fd ["value", "least", "most"] (spD gIsIn)) {f : Addr} {fd : FuncData} (F : Stands K mg "is_vector" st_is_vector f fd) : CalAt P w K mg base "is_vector" 2 f fd ["value", "size", "low", "high"] (spD gIsVec) := by
  obtain ⟨_, _, C_is_in⟩ := C_is_in
  refine ⟨F.fn.ok sc_is_vector (fun vs H Q E h => spD_len h (by rintro ds r ⟨a, n, lo, hi, rfl, _⟩; rfl)) (fun cdv A outer s H vs Q E hr h => ?_), F.gl, F.fn.kp, F.fn.binds fun _ _ _ _ _ _ us hl => match us, hl with | [_, _, _, _], _ => rfl⟩
  refine ⟨_, (pss_cons (ps_if (PW.pt (pw_or (pt_not (pt_val (pe_callB (r := rIsi K) call_isi (by rfl) T.n_isinstance (by decide +kernel) (pa_cons (pv 0) (pa_cons (pe_bltn (v := .ty "tuple") (u := .type "tuple") (by rfl) T.n_tuple (by decide +kernel) rfl) pa_nil))))) (pw_or1 (pt_cmpR (r := rNeD K) (op_neD hr.units) (pe_callB (r := rLenD K) call_len_seq (by rfl) T.n_len PySem.boot_len (pa_cons (pv 0) pa_nil)) (pv 1) (nomark _))))) (pss_one (ps_ret pe_bl)) pss_nil)
      (pss_one (ps_ret (pe_cmpR (r := rEqD K) (op_eqD hr.units) (pe_lc (own := [("x", 4)]) (g := (gName 4)) (tt := _) rfl sc_is_vector.nd (pi_tup (pv 0)) (blkOk_by (N := nm_is_vector) (sc := (defScope st_is_vector)) (by decide +kernel)) (fun _ _ _ _ _ => (pg_name (i := 4) sc_is_vector.nd rfl (Or.inl rfl))) (fun _ _ _ _ _ => (pts_one (pt_not (pt_val (pe_call C_is_in.ok (hr.mono (by first | decide | omega)) (by rfl) C_is_in.gl C_is_in.kp C_is_in.bi .nil pass0 (pa_cons (pv 4) (pa_cons (pv 2) (pa_cons (pv 3) pa_nil)))))))) (fun _ _ _ _ _ => (pv 4))) (pe_lst pa_nil) (nomark _))))), ?_⟩
  refine run_spD h ?_
  rintro ds r ⟨x, n, lo, hi, rfl, lx, rfl, hx, rfl⟩ b D hD
  refine gs_when (c := false) (dt_is (dt_or (dt_not (dt_val (de_isi (de_var rfl) kit_tuple_tuple))) fun _ => dt_test (de_ne (de_cb (da_cons (de_var rfl) da_nil) (dc_len (.t _))) (de_var rfl) rfl rfl)) ?_) (fun h => by cases h) fun _ => ?_
  · simp [PyData.eqv]
  · refine go_ret (d := .bool true) (de_is (de_eq (de_lc (xs := x) (enc := .int) (p := fun _ => false) (f := .int) (js := [4]) (di_tup (de_var rfl)) (by omega) (by decide) (fun _ _ => dg_name)
      (fun v hv => dt_is (dt_not (dt_val (de_call (r := .bool true) (da_cons (de_var rfl) (da_cons (de_var rfl) (da_cons (de_var rfl) da_nil))) ⟨_, _, _, rfl, ?_⟩))) rfl) fun v hv h => by cases h) (de_lst da_nil (by decide)) ?_ rfl) ?_) hD.rt
    · have z := hx v hv
      rw [decide_eq_true z.1, decide_eq_true z.2]
      rfl
    · rw [List.filter_eq_nil_iff.mpr (by simp)]; rfl
    · rw [List.filter_eq_nil_iff.mpr (by simp)]; rfl

abbrev nm_ways_from : List Str := ["shape", "lot", "k"]
abbrev st_ways_from : Stmt := topS 19
theorem sc_ways_from : FnScope nm_ways_from ["shape", "lot"] (defScope st_ways_from) := ⟨rfl, rfl, rfl, by decide +kernel, rfl, by decide +kernel, by decide +kernel⟩
/-- indexes -/
abbrev nD (l : List Nat) : List Int := l.map fun (k : Nat) => (k : Int)
abbrev tT (P : List (List Int)) : PyData := .tuple (P.map tI)
abbrev lT (P : List (List Int)) : PyData := .list (P.map tI)
def pt (P : List (List Int)) (k : Nat) : List Int := P.getD k []
def waysM (P : List (List Int)) (lot : List Nat) : List (List Int) := (lot.drop 1).map fun k => lessM (pt P k) (pt P (lot.headD 0))
def gWaysF (ds : List PyData) (r : PyData) : Prop := ∃ (S : List (List Int)) (lot : List Nat), ds = [tT S, tI (nD lot)] ∧ lot ≠ [] ∧ lot.length ≤ 100 ∧ (∀ k ∈ lot, k < S.length) ∧ (∀ p ∈ S, p.length ≤ 100) ∧ r = lT (waysM S lot)
theorem at_pt {S : List (List Int)} {k : Nat} (h : k < S.length) : atI (S.map tI) (k : Int) = some (tI (pt S k)) := by
  refine atI_nat ?_
  rw [List.getElem?_map, pt, List.getD_eq_getElem?_getD, List.getElem?_eq_getElem h]
  rfl
theorem pt_mem {S : List (List Int)} {k : Nat} (h : k < S.length) : pt S k ∈ S := by
  rw [pt, List.getD_eq_getElem?_getD, List.getElem?_eq_getElem h]
  exact List.getElem_mem h
theorem ok_ways_from (T : Txt mg) (C_less : ∃ f fd, CalAt P w K mg base "less" 1 f fd ["one", "other"] (spD gLess)) {f : Addr} {fd : FuncData} (F : Stands K mg "ways_from" st_ways_from f fd) : CalAt P w K mg base "ways_from" 2 f fd ["shape", "lot"] (spD gWaysF) := by
  obtain ⟨_, _, C_less⟩ := C_less
  refine ⟨F.fn.ok sc_ways_from (fun vs H Q E h => spD_len h (by rintro ds r ⟨a, n, rfl, _⟩; rfl)) (fun cdv A outer s H vs Q E hr h => ?_), F.gl, F.fn.kp, F.fn.binds fun _ _ _ _ _ _ us hl => match us, hl with | [_, _], _ => rfl⟩
  refine ⟨_, (pss_one (ps_ret (pe_lc (own := [("k", 2)]) (g := (gName 2)) (tt := tYes) rfl sc_ways_from.nd (pi_tup (pe_slice (r := rSlA K) sl_tupA (pv 1) (po_some pe_int) po_none)) (blkOk_by (N := nm_ways_from) (sc := (defScope st_ways_from)) (by decide +kernel)) (fun _ _ _ _ _ => (pg_name (i := 2) sc_ways_from.nd rfl (Or.inl rfl))) (fun _ _ _ _ _ => pts_nil) (fun _ _ _ _ _ => (pe_call C_less.ok (hr.mono (by first | decide | omega)) (by rfl) C_less.gl C_less.kp C_less.bi .nil pass0 (pa_cons (pe_ix (r := rIxT K) ix_tup (pv 0) (pv 2) (fun _ _ => rfl)) (pa_cons (pe_ix (r := rIxT K) ix_tup (pv 0) (pe_ix (r := rIxT K) ix_tup (pv 1) pe_int (fun _ _ => rfl)) (fun _ _ => rfl)) pa_nil))))))), ?_⟩
  refine run_spD h ?_
  rintro ds r ⟨S, lot, rfl, h0, hl, hk, hp, rfl⟩ b D hD
  cases lot with
  | nil => exact absurd rfl h0
  | cons l0 rest =>
    have hk0 : l0 < S.length := hk l0 (by simp)
    refine go_ret ?_ hD.rt
    refine de_is (de_map (xs := rest) (enc := fun (k : Nat) => .int (k : Int)) (f := fun k => tI (lessM (pt S k) (pt S l0))) (js := [2]) ?_ (by simp at hl; omega) (by decide) (fun _ _ => dg_name) fun k hm => ?_) ?_
    · have e : cutD ((nD (l0 :: rest)).map PyData.int) (some ((1 : Nat) : Int)) none = rest.map fun (k : Nat) => PyData.int (k : Int) := by
        rw [cutD_from]
        simp [nD]
      rw [← e]
      exact di_tup (de_slT (de_var rfl) (do_some de_int) do_none)
    · refine de_call (da_cons (de_ixT (de_var rfl) (de_var rfl) (at_pt (hk k (by simp [hm])))) (da_cons (de_ixT (de_var rfl) (de_ixT (de_var rfl) de_int (atI_nat (j := 0) rfl)) (at_pt hk0)) da_nil)) ⟨_, _, rfl, hp _ (pt_mem (hk k (by simp [hm]))), rfl⟩
    · simp [waysM, lT, Function.comp_def]
end LW

namespace LW
open PySem PySem.Spec PyProof.Rows L2
open Evl (Ex)
variable {P : Program} {w : World} {K : PySem.W.Frag} {mg : Str → Option Value} {base : Heap}

def det : List (List Int) → Int
  | [] => 1
  | [[a]] => a
  | [[a, b], [c, d]] => a * d - b * c
  | [[a, b, c], [d, e, f], [g, h, i]] => a * (e * i - f * h) - b * (d * i - f * g) + c * (d * h - e * g)
  | _ => 0
theorem cut_mid (r : List Int) (k : Nat) : PyData.tuple (cutD (r.map .int) none (some (k : Int)) ++ cutD (r.map .int) (some ((k : Int) + 1)) none) = tI (r.take k ++ r.drop (k + 1)) := by
  have e : ((k : Int) + 1) = ((k + 1 : Nat) : Int) := by omega
  rw [e, cutD_to, cutD_from, tI, List.map_append, List.map_take, List.map_drop]
theorem Sm.at {l : List Int} (h : Sm l) {k : Nat} (hk : k < l.length) : -(2 ^ 64) < l.getD k 0 ∧ l.getD k 0 < 2 ^ 64 := by
  rw [List.getD_eq_getElem?_getD, List.getElem?_eq_getElem hk]
  exact h _ (List.getElem_mem hk)
theorem at_int {l : List Int} {k : Nat} (h : k < l.length) : atI (l.map PyData.int) (k : Int) = some (.int (l.getD k 0)) := by
  refine atI_nat ?_
  rw [List.getElem?_map, List.getD_eq_getElem?_getD, List.getElem?_eq_getElem h]
  rfl

abbrev nm_determinant : List Str := ["rows", "total", "k", "part", "row"]
abbrev st_determinant : Stmt := topS 11
theorem sc_determinant : FnScope nm_determinant ["rows"] (defScope st_determinant) := ⟨rfl, rfl, rfl, by decide +kernel, rfl, by decide +kernel, by decide +kernel⟩
def gDet2 (ds : List PyData) (r : PyData) : Prop := ∃ rows : List (List Int), ds = [lT rows] ∧ ((∃ a, rows = [[a]]) ∨ ∃ a b c d, rows = [[a, b], [c, d]]) ∧ (∀ l ∈ rows, Sm l) ∧ r = .int (det rows)
theorem ok_det2 (T : Txt mg) {f : Addr} {fd : FuncData} (F : Stands K mg "determinant" st_determinant f fd) (C_determinant : CalAt P w K mg base "determinant" 0 f fd ["rows"] (spD fun _ _ => False)) : CalAt P w K mg base "determinant" 1 f fd ["rows"] (spD gDet2) := by
  refine ⟨F.fn.ok sc_determinant (fun vs H Q E h => spD_len h (by rintro ds r ⟨a, rfl, _⟩; rfl)) (fun cdv A outer s H vs Q E hr h => ?_), F.gl, F.fn.kp, F.fn.binds fun _ _ _ _ _ _ us hl => match us, hl with | [_], _ => rfl⟩
  refine ⟨_, (pss_cons (ps_if (pt_cmpR (r := rEqD K) (op_eqD hr.units) (pe_callB (r := rLenD K) call_len_seq (by rfl) T.n_len PySem.boot_len (pa_cons (pv 0) pa_nil)) pe_int (nomark _)) (pss_one (ps_ret (pe_ix (r := rIxT K) ix_tup (pe_ix (r := rIxL K) ix_list (pv 0) pe_int (fun _ _ => rfl)) pe_int (fun _ _ => rfl)))) pss_nil)
      (pss_cons (ps_if (pt_cmpR (r := rEqD K) (op_eqD hr.units) (pe_callB (r := rLenD K) call_len_seq (by rfl) T.n_len PySem.boot_len (pa_cons (pv 0) pa_nil)) pe_int (nomark _)) (pss_one (ps_ret (pe_op op_sub (pe_op op_mul (pe_ix (r := rIxT K) ix_tup (pe_ix (r := rIxL K) ix_list (pv 0) pe_int (fun _ _ => rfl)) pe_int (fun _ _ => rfl)) (pe_ix (r := rIxT K) ix_tup (pe_ix (r := rIxL K) ix_list (pv 0) pe_int (fun _ _ => rfl)) pe_int (fun _ _ => rfl))) (pe_op op_mul (pe_ix (r := rIxT K) ix_tup (pe_ix (r := rIxL K) ix_list (pv 0) pe_int (fun _ _ => rfl)) pe_int (fun _ _ => rfl)) (pe_ix (r := rIxT K) ix_tup (pe_ix (r := rIxL K) ix_list (pv 0) pe_int (fun _ _ => rfl)) pe_int (fun _ _ => rfl)))))) pss_nil)
      (pss_cons (ps_set (i := 1) sc_determinant.nd rfl (Or.inl rfl) pe_int)
      (pss_cons (ps_for PassesOwn.never rfl (pi_range1 (by rfl) T.n_range (pa_cons (pe_callB (r := rLenD K) call_len_seq (by rfl) T.n_len PySem.boot_len (pa_cons (pv 0) pa_nil)) pa_nil)) (pg_name (i := 2) sc_determinant.nd rfl (Or.inr rfl)) (pss_one (ps_if (pt_cmpR (r := rNeD K) (op_neD hr.units) (pe_ix (r := rIxT K) ix_tup (pe_ix (r := rIxL K) ix_list (pv 0) pe_int (fun _ _ => rfl)) (pv 2) (fun _ _ => rfl)) pe_int (nomark _)) (pss_cons (ps_set (i := 3) sc_determinant.nd rfl (Or.inl rfl) (pe_op op_mul (pe_ix (r := rIxT K) ix_tup (pe_ix (r := rIxL K) ix_list (pv 0) pe_int (fun _ _ => rfl)) (pv 2) (fun _ _ => rfl)) (pe_call C_determinant.ok (hr.mono (by first | decide | omega)) (by rfl) C_determinant.gl C_determinant.kp C_determinant.bi .nil pass0 (pa_cons (pe_lc (own := [("row", 4)]) (g := (gName 4)) (tt := tYes) rfl sc_determinant.nd (pi_list (pe_slice (r := rSlL K) sl_list (pv 0) (po_some pe_int) po_none)) (blkOk_by (N := nm_determinant) (sc := (defScope st_determinant)) (by decide +kernel)) (fun _ _ _ _ _ => (pg_name (i := 4) sc_determinant.nd rfl (Or.inl rfl))) (fun _ _ _ _ _ => pts_nil) (fun _ _ _ _ _ => (pe_op (r := rCatA K) op_catA (pe_slice (r := rSlA K) sl_tupA (pv 4) po_none (po_some (pv 2))) (pe_slice (r := rSlA K) sl_tupA (pv 4) (po_some (pe_op op_add (pv 2) pe_int)) po_none)))) pa_nil))))
      (pss_one (ps_aug (i := 1) sc_determinant.nd rfl (Or.inl rfl) (pe_ifExp (pt_cmpR (r := rEqD K) (op_eqD hr.units) (pe_op op_mod (pv 2) pe_int) pe_int (nomark _)) (pv 3) (pe_un un_neg (pv 3))) ip_add))) pss_nil)))
      (pss_one (ps_ret (pv 1))))))), ?_⟩
  refine run_spD h ?_
  rintro ds r ⟨rows, rfl, hr, hs, rfl⟩ b D hD
  rcases hr with ⟨a, rfl⟩ | ⟨a, c, d, e, rfl⟩
  · refine gs_when (c := true) (dt_is (dt_test (de_eq (de_cb (da_cons (de_var rfl) da_nil) (dc_len (.l _))) de_int rfl rfl)) rfl) (fun _ => ?_) (fun h => by cases h)
    exact go_ret (de_ixT (de_ixL (de_var rfl) de_int (atI_nat (j := 0) rfl)) de_int (atI_nat (j := 0) rfl)) hD.rt
  · refine gs_when (c := false) (dt_is (dt_test (de_eq (de_cb (da_cons (de_var rfl) da_nil) (dc_len (.l _))) de_int rfl rfl)) rfl) (fun h => by cases h) (fun _ => ?_)
    refine gs_when (c := true) (dt_is (dt_test (de_eq (de_cb (da_cons (de_var rfl) da_nil) (dc_len (.l _))) de_int rfl rfl)) rfl) (fun _ => ?_) (fun h => by cases h)
    have z := hs [a, c] (by simp)
    exact go_ret (de_sub (de_mul (de_ixT (de_ixL (de_var rfl) de_int (atI_nat (j := 0) rfl)) de_int (atI_nat (j := 0) rfl)) (de_ixT (de_ixL (de_var rfl) de_int (atI_nat (j := 1) rfl)) de_int (atI_nat (j := 1) rfl)) (.inl (z a (by simp))))
      (de_mul (de_ixT (de_ixL (de_var rfl) de_int (atI_nat (j := 0) rfl)) de_int (atI_nat (j := 1) rfl)) (de_ixT (de_ixL (de_var rfl) de_int (atI_nat (j := 1) rfl)) de_int (atI_nat (j := 0) rfl)) (.inl (z c (by simp))))) hD.rt
def minor (k : Nat) (rows : List (List Int)) : List (List Int) := (rows.drop 1).map fun r => r.take k ++ r.drop (k + 1)
def detT (rows : List (List Int)) : Nat → Int
  | 0 => 0
  | k + 1 => detT rows k + (if (PyData.eqv (.int ((k : Int) % 2)) (.int 0)) = true then (rows.headD []).getD k 0 * det (minor k rows) else -((rows.headD []).getD k 0 * det (minor k rows)))
theorem range_at {n : Nat} {pre post : List Nat} {x : Nat} (e : List.range n = pre ++ x :: post) : x = pre.length ∧ x < n := by
  have h : (List.range n)[pre.length]? = some x := by
    rw [e, List.getElem?_append_right (Nat.le_refl _)]
    simp
  have hl : pre.length < n := by
    have := congrArg List.length e
    simp at this
    omega
  rw [List.getElem?_range hl] at h
  have := Option.some.inj h
  omega
def gDet (ds : List PyData) (r : PyData) : Prop := ∃ rows : List (List Int), ds = [lT rows] ∧ ((∃ a, rows = [[a]]) ∨ (∃ a b c d, rows = [[a, b], [c, d]]) ∨ ∃ a b c d e f g h i, rows = [[a, b, c], [d, e, f], [g, h, i]]) ∧ (∀ l ∈ rows, Sm l) ∧ r = .int (det rows)
theorem ok_determinant (T : Txt mg) {f : Addr} {fd : FuncData} (F : Stands K mg "determinant" st_determinant f fd) (C_determinant : CalAt P w K mg base "determinant" 1 f fd ["rows"] (spD gDet2)) : CalAt P w K mg base "determinant" 2 f fd ["rows"] (spD gDet) := by
  refine ⟨F.fn.ok sc_determinant (fun vs H Q E h => spD_len h (by rintro ds r ⟨a, rfl, _⟩; rfl)) (fun cdv A outer s H vs Q E hr h => ?_), F.gl, F.fn.kp, F.fn.binds fun _ _ _ _ _ _ us hl => match us, hl with | [_], _ => rfl⟩
  refine ⟨_, (pss_cons (ps_if (pt_cmpR (r := rEqD K) (op_eqD hr.units) (pe_callB (r := rLenD K) call_len_seq (by rfl) T.n_len PySem.boot_len (pa_cons (pv 0) pa_nil)) pe_int (nomark _)) (pss_one (ps_ret (pe_ix (r := rIxT K) ix_tup (pe_ix (r := rIxL K) ix_list (pv 0) pe_int (fun _ _ => rfl)) pe_int (fun _ _ => rfl)))) pss_nil)
      (pss_cons (ps_if (pt_cmpR (r := rEqD K) (op_eqD hr.units) (pe_callB (r := rLenD K) call_len_seq (by rfl) T.n_len PySem.boot_len (pa_cons (pv 0) pa_nil)) pe_int (nomark _)) (pss_one (ps_ret (pe_op op_sub (pe_op op_mul (pe_ix (r := rIxT K) ix_tup (pe_ix (r := rIxL K) ix_list (pv 0) pe_int (fun _ _ => rfl)) pe_int (fun _ _ => rfl)) (pe_ix (r := rIxT K) ix_tup (pe_ix (r := rIxL K) ix_list (pv 0) pe_int (fun _ _ => rfl)) pe_int (fun _ _ => rfl))) (pe_op op_mul (pe_ix (r := rIxT K) ix_tup (pe_ix (r := rIxL K) ix_list (pv 0) pe_int (fun _ _ => rfl)) pe_int (fun _ _ => rfl)) (pe_ix (r := rIxT K) ix_tup (pe_ix (r := rIxL K) ix_list (pv 0) pe_int (fun _ _ => rfl)) pe_int (fun _ _ => rfl)))))) pss_nil)
      (pss_cons (ps_set (i := 1) sc_determinant.nd rfl (Or.inl rfl) pe_int)
      (pss_cons (ps_for PassesOwn.never rfl (pi_range1 (by rfl) T.n_range (pa_cons (pe_callB (r := rLenD K) call_len_seq (by rfl) T.n_len PySem.boot_len (pa_cons (pv 0) pa_nil)) pa_nil)) (pg_name (i := 2) sc_determinant.nd rfl (Or.inr rfl)) (pss_one (ps_if (pt_cmpR (r := rNeD K) (op_neD hr.units) (pe_ix (r := rIxT K) ix_tup (pe_ix (r := rIxL K) ix_list (pv 0) pe_int (fun _ _ => rfl)) (pv 2) (fun _ _ => rfl)) pe_int (nomark _)) (pss_cons (ps_set (i := 3) sc_determinant.nd rfl (Or.inl rfl) (pe_op op_mul (pe_ix (r := rIxT K) ix_tup (pe_ix (r := rIxL K) ix_list (pv 0) pe_int (fun _ _ => rfl)) (pv 2) (fun _ _ => rfl)) (pe_call C_determinant.ok (hr.mono (by first | decide | omega)) (by rfl) C_determinant.gl C_determinant.kp C_determinant.bi .nil pass0 (pa_cons (pe_lc (own := [("row", 4)]) (g := (gName 4)) (tt := tYes) rfl sc_determinant.nd (pi_list (pe_slice (r := rSlL K) sl_list (pv 0) (po_some pe_int) po_none)) (blkOk_by (N := nm_determinant) (sc := (defScope st_determinant)) (by decide +kernel)) (fun _ _ _ _ _ => (pg_name (i := 4) sc_determinant.nd rfl (Or.inl rfl))) (fun _ _ _ _ _ => pts_nil) (fun _ _ _ _ _ => (pe_op (r := rCatA K) op_catA (pe_slice (r := rSlA K) sl_tupA (pv 4) po_none (po_some (pv 2))) (pe_slice (r := rSlA K) sl_tupA (pv 4) (po_some (pe_op op_add (pv 2) pe_int)) po_none)))) pa_nil))))
      (pss_one (ps_aug (i := 1) sc_determinant.nd rfl (Or.inl rfl) (pe_ifExp (pt_cmpR (r := rEqD K) (op_eqD hr.units) (pe_op op_mod (pv 2) pe_int) pe_int (nomark _)) (pv 3) (pe_un un_neg (pv 3))) ip_add))) pss_nil)))
      (pss_one (ps_ret (pv 1))))))), ?_⟩
  refine run_spD h ?_
  rintro ds r ⟨rows, rfl, hr, hs, rfl⟩ b D hD
  rcases hr with ⟨a, rfl⟩ | ⟨a, c, d, e, rfl⟩ | ⟨a1, a2, a3, b1, b2, b3, c1, c2, c3, er⟩
  · refine gs_when (c := true) (dt_is (dt_test (de_eq (de_cb (da_cons (de_var rfl) da_nil) (dc_len (.l _))) de_int rfl rfl)) rfl) (fun _ => ?_) (fun h => by cases h)
    exact go_ret (de_ixT (de_ixL (de_var rfl) de_int (atI_nat (j := 0) rfl)) de_int (atI_nat (j := 0) rfl)) hD.rt
  · refine gs_when (c := false) (dt_is (dt_test (de_eq (de_cb (da_cons (de_var rfl) da_nil) (dc_len (.l _))) de_int rfl rfl)) rfl) (fun h => by cases h) (fun _ => ?_)
    refine gs_when (c := true) (dt_is (dt_test (de_eq (de_cb (da_cons (de_var rfl) da_nil) (dc_len (.l _))) de_int rfl rfl)) rfl) (fun _ => ?_) (fun h => by cases h)
    have z := hs [a, c] (by simp)
    exact go_ret (de_sub (de_mul (de_ixT (de_ixL (de_var rfl) de_int (atI_nat (j := 0) rfl)) de_int (atI_nat (j := 0) rfl)) (de_ixT (de_ixL (de_var rfl) de_int (atI_nat (j := 1) rfl)) de_int (atI_nat (j := 1) rfl)) (.inl (z a (by simp))))
      (de_mul (de_ixT (de_ixL (de_var rfl) de_int (atI_nat (j := 0) rfl)) de_int (atI_nat (j := 1) rfl)) (de_ixT (de_ixL (de_var rfl) de_int (atI_nat (j := 1) rfl)) de_int (atI_nat (j := 0) rfl)) (.inl (z c (by simp))))) hD.rt
  · have el : rows.length = 3 := by rw [er]; rfl
    have h0 : rows.headD [] = [a1, a2, a3] := by rw [er]; rfl
    have m0 : rows[0]? = some [a1, a2, a3] := by rw [er]; rfl
    have ez : detT rows 3 = det rows := by rw [er]; simp [detT, det, minor, PyData.eqv]; omega
    have s0 : Sm [a1, a2, a3] := hs _ (by rw [er]; simp)
    have mok : ∀ k, k < 3 → (∃ a b c d, minor k rows = [[a, b], [c, d]]) ∧ ∀ l ∈ minor k rows, Sm l := fun k hk => by
      have s1 : Sm [b1, b2, b3] := hs _ (by rw [er]; simp)
      have s2 : Sm [c1, c2, c3] := hs _ (by rw [er]; simp)
      have gen : ∀ (l : List Int), Sm l → Sm (l.take k ++ l.drop (k + 1)) := fun l h x hx => by
        rcases List.mem_append.mp hx with hx | hx
        · exact h x (List.mem_of_mem_take hx)
        · exact h x (List.mem_of_mem_drop hx)
      refine ⟨?_, fun l hl => ?_⟩
      · rw [er]
        match k, hk with
        | 0, _ => exact ⟨_, _, _, _, rfl⟩
        | 1, _ => exact ⟨_, _, _, _, rfl⟩
        | 2, _ => exact ⟨_, _, _, _, rfl⟩
      · rw [er] at hl
        simp only [minor, List.drop_succ_cons, List.drop_zero, List.map_cons, List.map_nil, List.mem_cons, List.not_mem_nil, or_false] at hl
        rcases hl with rfl | rfl
        · exact gen _ s1
        · exact gen _ s2
    have hlen : DE (tCB (rLenD K) (tCons (tVar 0) tNil)) [.dat (lT rows), .any, .any, .any, .any] (.int 3) := de_is (de_cb (da_cons (de_var rfl) da_nil) (dc_len (.l _))) (by rw [List.length_map, el]; rfl)
    refine gs_when (c := false) (dt_is (dt_test (de_eq hlen de_int rfl rfl)) rfl) (fun h => by cases h) (fun _ => ?_)
    refine gs_when (c := false) (dt_is (dt_test (de_eq hlen de_int rfl rfl)) rfl) (fun h => by cases h) (fun _ => ?_)
    refine gs_asg de_int ?_
    refine gs_forN (xs := List.range 3) (enc := fun (k : Nat) => .int (k : Int)) (fun pre => [.dat (lT rows), .dat (.int (detT rows pre.length)), .any, .any, .any]) (fun _ => True)
      (di_rng1 (n := 3) (da_cons (de_is (de_cb (da_cons (de_var rfl) da_nil) (dc_len (.l _))) (by rw [List.length_map, el]; rfl)) da_nil) (by decide)) (LeE.refl _) trivial (fun pre k post c e _ h1 h2 => ?_) fun _ => ?_
    · obtain ⟨ek, hk⟩ := range_at e
      have he : (PyData.int ((rows.headD []).getD k 0)) = .int (([a1, a2, a3] : List Int).getD k 0) := by rw [h0]
      have entry : DE (tOp (rIxT K) (tOp (rIxL K) (tVar 0) (tC (.int 0))) (tVar 2)) [.dat (lT rows), .dat (.int (detT rows pre.length)), .dat (.int k), .any, .any] (.int ((rows.headD []).getD k 0)) := by
        rw [he]
        exact de_ixT (ds := [a1, a2, a3].map .int) (de_ixL (de_var rfl) de_int (atI_nat (j := 0) (by rw [List.getElem?_map, m0]; rfl))) (de_var rfl) (at_int hk)
      have nx : detT rows (pre ++ [k]).length = detT rows pre.length + (if (PyData.eqv (.int ((k : Int) % 2)) (.int 0)) = true then (rows.headD []).getD k 0 * det (minor k rows) else -((rows.headD []).getD k 0 * det (minor k rows))) := by
        rw [List.length_append, List.length_singleton, detT, ← ek]
      refine go_when (dt_test (de_ne entry de_int rfl rfl)) (fun hz => ?_) fun hz => ?_
      · refine gs_asg (d := .int ((rows.headD []).getD k 0 * det (minor k rows))) (de_mul entry (de_call (da_cons (de_is (de_map (xs := rows.drop 1) (enc := tI) (f := fun r => tI (r.take k ++ r.drop (k + 1))) (js := [4])
          (by rw [List.map_drop, ← cutD_from]; exact di_list (de_slL (de_var rfl) (do_some de_int) do_none)) (by rw [List.length_drop, el]; decide) (by decide) (fun _ _ => dg_name)
          fun r hr => de_is (de_catT (de_slT (de_var rfl) do_none (do_some (de_var rfl))) (de_slT (de_var rfl) (do_some (de_add (de_var rfl) de_int)) do_none) ?_) (cut_mid r k)) (y := lT (minor k rows)) (by simp [lT, minor, Function.comp_def])) da_nil)
          ⟨_, rfl, .inr (mok k hk).1, (mok k hk).2, rfl⟩) (.inl (by rw [h0]; exact s0.at hk))) ?_
        · have : r.length = 3 := by
            have : r ∈ rows := List.mem_of_mem_drop hr
            rw [er] at this
            simp at this
            rcases this with rfl | rfl | rfl <;> rfl
          simp [cutD_to]
          have e : ((k : Int) + 1) = ((k + 1 : Nat) : Int) := by omega
          rw [e, cutD_from]
          simp
          omega
        · refine go_aug (f := fun i j => i + j) rfl (de_if (d := .int (if (PyData.eqv (.int ((k : Int) % 2)) (.int 0)) = true then (rows.headD []).getD k 0 * det (minor k rows) else -((rows.headD []).getD k 0 * det (minor k rows)))) (dt_test (de_eq (de_mod (de_var rfl) de_int (by decide)) de_int rfl rfl)) (fun z => ?_) (fun z => ?_)) ?_
          · rw [if_pos z]; exact de_var rfl
          · rw [z, if_neg (by decide)]; exact de_neg (de_var rfl)
          · refine go_turn trivial ?_
            rw [nx]
            exact .eq (.eq (.any (.any (.any .nil))))
      · have hz : (rows.headD []).getD k 0 = 0 := by simpa [PyData.eqv] using hz
        refine go_turn trivial ?_
        rw [nx, hz]
        simp only [Int.zero_mul, Int.neg_zero, ite_self, Int.add_zero]
        exact .eq (.eq (.any (.any (.any .nil))))
    · rw [List.length_range, ez]
      exact go_ret (de_var rfl) hD.rt

abbrev nm_normal_to : List Str := ["ways", "size", "found", "k", "rows", "part", "way"]
abbrev st_normal_to : Stmt := topS 13
theorem sc_normal_to : FnScope nm_normal_to ["ways", "size"] (defScope st_normal_to) := ⟨rfl, rfl, rfl, by decide +kernel, rfl, by decide +kernel, by decide +kernel⟩
def normalM : Nat → List (List Int) → List Int
  | 1, _ => [1]
  | 2, [[p, q]] => [q, -p]
  | 3, [[a, b, c], [d, e, f]] => [b * f - c * e, -(a * f - c * d), a * e - b * d]
  | _, _ => []
def normal (d : Nat) (ws : List (List Int)) (k : Nat) : Int :=
  let part := if d > 1 then det (ws.map fun r => r.take k ++ r.drop (k + 1)) else 1
  if (PyData.eqv (.int ((k : Int) % 2)) (.int 0)) = true then part else -part
def gNorm (ds : List PyData) (r : PyData) : Prop := ∃ (d : Nat) (ws : List (List Int)), ds = [lT ws, .int d] ∧ ((d = 1 ∧ ws = []) ∨ (d = 2 ∧ ∃ p q, ws = [[p, q]]) ∨ (d = 3 ∧ ∃ a b c e f g, ws = [[a, b, c], [e, f, g]])) ∧ (∀ l ∈ ws, Sm l) ∧ r = tI (normalM d ws)
theorem ok_normal_to (T : Txt mg) (C_determinant : ∃ f fd, CalAt P w K mg base "determinant" 2 f fd ["rows"] (spD gDet)) {f : Addr} {fd : FuncData} (F : Stands K mg "normal_to" st_normal_to f fd) : CalAt P w K mg base "normal_to" 3 f fd ["ways", "size"] (spD gNorm) := by
  obtain ⟨_, _, C_determinant⟩ := C_determinant
  refine ⟨F.fn.ok sc_normal_to (fun vs H Q E h => spD_len h (by rintro ds r ⟨a, d, rfl, _⟩; rfl)) (fun cdv A outer s H vs Q E hr h => ?_), F.gl, F.fn.kp, F.fn.binds fun _ _ _ _ _ _ us hl => match us, hl with | [_, _], _ => rfl⟩
  refine ⟨_, (pss_cons (ps_set (i := 2) sc_normal_to.nd rfl (Or.inl rfl) (pe_lst pa_nil))
      (pss_cons (ps_for PassesOwn.never rfl (pi_range1 (by rfl) T.n_range (pa_cons (pv 1) pa_nil)) (pg_name (i := 3) sc_normal_to.nd rfl (Or.inr rfl)) (pss_cons (ps_setLc (i := 4) (own := [("way", 6)]) (g := (gName 6)) (tt := tYes) rfl sc_normal_to.nd rfl rfl (sw_true rfl rfl rfl (by decide +kernel)) (pi_list (pv 0)) (blkOk_by (N := nm_normal_to) (sc := (defScope st_normal_to)) (by decide +kernel)) (fun _ _ _ _ _ => (pg_name (i := 6) sc_normal_to.nd rfl (Or.inl rfl))) (fun _ _ _ _ _ => pts_nil) (fun _ _ _ _ _ => (pe_op (r := rCatA K) op_catA (pe_slice (r := rSlA K) sl_tupA (pv 6) po_none (po_some (pv 3))) (pe_slice (r := rSlA K) sl_tupA (pv 6) (po_some (pe_op op_add (pv 3) pe_int)) po_none))))
      (pss_cons (ps_set (i := 5) sc_normal_to.nd rfl (Or.inl rfl) (pe_ifExp (pt_cmpR op_gt (pv 1) pe_int (nomark _)) (pe_call C_determinant.ok (hr.mono (by first | decide | omega)) (by rfl) C_determinant.gl C_determinant.kp C_determinant.bi .nil pass0 (pa_cons (pv 4) pa_nil)) pe_int))
      (pss_one (ps_expr (pe_bm PySem.F.plainAttrs_list PySem.F.slot_list_append PySem.F.type_list_append mt_append (pv 2) (pa_cons (pe_ifExp (pt_cmpR (r := rEqD K) (op_eqD hr.units) (pe_op op_mod (pv 3) pe_int) pe_int (nomark _)) (pv 5) (pe_un un_neg (pv 5))) pa_nil)))))))
      (pss_one (ps_ret (pe_callTy (r := rTupD K) call_tuple_of (by rfl) T.n_tuple (by decide +kernel) (pa_cons (pv 2) pa_nil)))))), ?_⟩
  refine run_spD h ?_
  rintro ds r ⟨d, ws, rfl, hw, hs, rfl⟩ b D hD
  have hd : 1 ≤ d ∧ d ≤ 3 := by rcases hw with ⟨rfl, _⟩ | ⟨rfl, _⟩ | ⟨rfl, _⟩ <;> decide
  have hl : ∀ r ∈ ws, r.length = d := by
    rcases hw with ⟨rfl, rfl⟩ | ⟨rfl, p, q, rfl⟩ | ⟨rfl, x1, x2, x3, x4, x5, x6, rfl⟩ <;> simp
  have hlw : ws.length ≤ 2 := by
    rcases hw with ⟨rfl, rfl⟩ | ⟨rfl, p, q, rfl⟩ | ⟨rfl, x1, x2, x3, x4, x5, x6, rfl⟩ <;> simp
  have en : normalM d ws = (List.range d).map (normal d ws) := by
    rcases hw with ⟨rfl, rfl⟩ | ⟨rfl, p, q, rfl⟩ | ⟨rfl, x1, x2, x3, x4, x5, x6, rfl⟩ <;> simp [normalM, normal, List.range_succ, det, PyData.eqv]
  have mok : 1 < d → ∀ k, k < d → ((∃ a, (ws.map fun r => r.take k ++ r.drop (k + 1)) = [[a]]) ∨ (∃ a b c e, (ws.map fun r => r.take k ++ r.drop (k + 1)) = [[a, b], [c, e]])) := fun h1 k hk => by
    rcases hw with ⟨rfl, rfl⟩ | ⟨rfl, p, q, rfl⟩ | ⟨rfl, x1, x2, x3, x4, x5, x6, rfl⟩
    · omega
    · left
      match k, hk with
      | 0, _ => exact ⟨_, rfl⟩
      | 1, _ => exact ⟨_, rfl⟩
    · right
      match k, hk with
      | 0, _ => exact ⟨_, _, _, _, rfl⟩
      | 1, _ => exact ⟨_, _, _, _, rfl⟩
      | 2, _ => exact ⟨_, _, _, _, rfl⟩
  refine gs_newL fun a na => ?_
  refine gs_forN (xs := List.range d) (enc := fun (k : Nat) => .int (k : Int)) (fun pre => [.dat (lT ws), .dat (.int d), .own a (lstP (((List.range pre.length).map (normal d ws)).map .int)), .any, .any, .any, .any]) (fun _ => True)
    (di_rng1 (n := (d : Int)) (da_cons (de_var rfl) da_nil) (by omega)) (LeE.refl _) trivial (fun pre k post c e _ h1 h2 => ?_) fun _ => ?_
  · obtain ⟨ek, hk⟩ := range_at e
    refine gs_asg (d := lT (ws.map fun r => r.take k ++ r.drop (k + 1))) (de_is (de_map (xs := ws) (enc := tI) (f := fun r => tI (r.take k ++ r.drop (k + 1))) (js := [6]) (di_list (de_var rfl)) (by omega) (by decide) (fun _ _ => dg_name)
      fun r hr => de_is (de_catT (de_slT (de_var rfl) do_none (do_some (de_var rfl))) (de_slT (de_var rfl) (do_some (de_add (de_var rfl) de_int)) do_none) ?_) (cut_mid r k)) (by simp [lT, Function.comp_def])) ?_
    · have := hl r hr
      simp [cutD_to]
      have e : ((k : Int) + 1) = ((k + 1 : Nat) : Int) := by omega
      rw [e, cutD_from]
      simp
      omega
    refine gs_asg (d := .int (if d > 1 then det (ws.map fun r => r.take k ++ r.drop (k + 1)) else 1)) (de_if (b := decide ((1 : Int) < (d : Int))) (dt_test (de_cmp (p := fun i j => decide (j < i)) (de_var rfl) de_int)) (fun z => ?_) fun z => ?_) ?_
    · have z := of_decide_eq_true z
      rw [if_pos (by omega)]
      refine de_call (da_cons (de_var rfl) da_nil) ⟨_, rfl, (mok (by omega) k hk).elim .inl fun h => .inr (.inl h), fun l hl' => ?_, rfl⟩
      obtain ⟨r, hr, rfl⟩ := List.mem_map.mp hl'
      intro x hx
      rcases List.mem_append.mp hx with hx | hx
      · exact hs r hr x (List.mem_of_mem_take hx)
      · exact hs r hr x (List.mem_of_mem_drop hx)
    · have z := of_decide_eq_false z
      rw [if_neg (by omega)]
      exact de_int
    refine go_app (d := .int (normal d ws k)) rfl (de_if (dt_test (de_eq (de_mod (de_var rfl) de_int (by decide)) de_int rfl rfl)) (fun z => ?_) fun z => ?_) (by simp; have := List.length_range (n := d); have e2 := congrArg List.length e; simp at e2; omega) ?_
    · simp only [normal]
      rw [if_pos z]
      exact de_var rfl
    · simp only [normal]
      rw [z]
      exact de_neg (de_var rfl)
    · refine go_turn trivial ?_
      have e3 : ((List.range (pre ++ [k]).length).map (normal d ws)).map PyData.int = ((List.range pre.length).map (normal d ws)).map PyData.int ++ [.int (normal d ws k)] := by
        rw [List.length_append, List.length_singleton, List.range_succ, ek]
        simp
      rw [e3]
      exact .eq (.eq (.eq (.any (.any (.any (.any .nil))))))
  · rw [List.length_range, ← en]
    refine go_frz (i := 2) rfl ?_
    exact go_ret (de_cb (da_cons (de_var rfl) da_nil) (dc_tuple (.l _))) hD.rt
end LW

namespace LW
open PySem PySem.Spec PyProof.Rows L2
open Evl (Ex)
variable {P : Program} {w : World} {K : PySem.W.Frag} {mg : Str → Option Value} {base : Heap}

/-! ### lots -/
abbrev lD (l : List Nat) : PyData := tI (nD l)
def grow (s : Nat) : Nat → List (List Nat)
  | 0 => [[]]
  | k + 1 => grow s k ++ ((grow s k).filter fun l => decide (l.length < s)).map fun l => l ++ [k]
def lots (n s : Nat) : List (List Nat) := ((grow s n).filter fun l => decide (l.length = s)).mergeSort (leD lD)
theorem grow_len (s n : Nat) : (grow s n).length ≤ 2 ^ n := by
  induction n with
  | zero => simp [grow]
  | succ k ih =>
    rw [grow, List.length_append, List.length_map, Nat.pow_succ]
    have := List.length_filter_le (fun l : List Nat => decide (l.length < s)) (grow s k)
    omega
theorem grow_small {s n : Nat} (h : n ≤ 12) : (grow s n).length ≤ 4096 := Nat.le_trans (grow_len s n) (by
  have : 2 ^ n ≤ 2 ^ 12 := Nat.pow_le_pow_right (by decide) h
  exact this)
theorem sub_snoc {α : Type} {l m : List α} {x : α} : l.Sublist (m ++ [x]) ↔ l.Sublist m ∨ ∃ l', l = l' ++ [x] ∧ l'.Sublist m := by
  constructor
  · intro h
    obtain ⟨a, b, rfl, ha, hb⟩ := List.sublist_append_iff.mp h
    cases hb with
    | cons _ h2 =>
      cases h2
      left
      simpa using ha
    | cons_cons _ h2 =>
      cases h2
      exact .inr ⟨a, rfl, ha⟩
  · rintro (h | ⟨l', rfl, h⟩)
    · exact h.trans (List.sublist_append_left _ _)
    · exact List.Sublist.append h (List.Sublist.refl _)
theorem mem_grow {s n : Nat} {l : List Nat} : l ∈ grow s n ↔ l.Sublist (List.range n) ∧ l.length ≤ s := by
  induction n generalizing l with
  | zero =>
    rw [grow, List.range_zero]
    constructor
    · intro h
      have e : l = [] := by simpa using h
      subst e
      exact ⟨List.Sublist.refl _, Nat.zero_le _⟩
    · rintro ⟨h, _⟩
      rw [List.sublist_nil.mp h]
      simp
  | succ k ih =>
    rw [grow, List.range_succ, sub_snoc, List.mem_append, ih]
    constructor
    · rintro (⟨h, g⟩ | h)
      · exact ⟨.inl h, g⟩
      · obtain ⟨l', h', rfl⟩ := List.mem_map.mp h
        obtain ⟨h1, h2⟩ := List.mem_filter.mp h'
        have h2 := of_decide_eq_true h2
        refine ⟨.inr ⟨l', rfl, (ih.mp h1).1⟩, ?_⟩
        rw [List.length_append, List.length_singleton]
        omega
    · rintro ⟨h | ⟨l', rfl, h⟩, g⟩
      · exact .inl ⟨h, g⟩
      · right
        rw [List.length_append, List.length_singleton] at g
        exact List.mem_map.mpr ⟨l', List.mem_filter.mpr ⟨ih.mpr ⟨h, by omega⟩, decide_eq_true (by omega)⟩, rfl⟩
theorem mem_lots {n s : Nat} {l : List Nat} : l ∈ lots n s ↔ l.Sublist (List.range n) ∧ l.length = s := by
  unfold lots
  rw [List.mem_mergeSort, List.mem_filter, mem_grow]
  simp only [decide_eq_true_eq]
  constructor
  · rintro ⟨⟨h, _⟩, g⟩
    exact ⟨h, g⟩
  · rintro ⟨h, g⟩
    exact ⟨⟨h, by omega⟩, g⟩
theorem lots_len {n s : Nat} (h : n ≤ 12) : (lots n s).length ≤ 4096 := by
  unfold lots
  rw [List.length_mergeSort]
  exact Nat.le_trans (List.length_filter_le _ _) (grow_small h)
theorem lots_lt {n s : Nat} {l : List Nat} (h : l ∈ lots n s) : ∀ k ∈ l, k < n := fun k hk => List.mem_range.mp ((mem_lots.mp h).1.subset hk)
theorem sortable_pos {α : Type} {enc : α → List PyData} {l : List α} (h : ∀ a ∈ l, enc a ≠ []) : PySem.W.Sortable (l.map fun a => PyData.tuple (enc a)) := .inl fun d hd => by
  obtain ⟨a, ha, rfl⟩ := List.mem_map.mp hd
  cases e : enc a with
  | nil => exact absurd e (h a ha)
  | cons x r => exact ⟨x, r, rfl⟩
theorem depth_tI' (l : List Int) : (tI l).depth ≤ 40 := Nat.le_trans (depth_tI l) (by decide)
def gSubs (ds : List PyData) (r : PyData) : Prop := ∃ n s : Nat, ds = [.int (n : Int), .int (s : Int)] ∧ n ≤ 12 ∧ 1 ≤ s ∧ r = .list ((lots n s).map lD)
theorem eqv_nat (a b : Nat) : PyData.eqv (.int (a : Int)) (.int (b : Int)) = decide (a = b) := by
  by_cases h : a = b
  · subst h
    simp [PyData.eqv]
  · have : ¬ (a : Int) = (b : Int) := by omega
    simp [PyData.eqv, h, this]
theorem dec_len (a b : Nat) : (decide ((a : Int) < (b : Int))) = decide (a < b) := by
  apply decide_eq_decide.mpr
  omega

abbrev nm_subsets : List Str := ["many", "size", "found", "k", "lot"]
abbrev st_subsets : Stmt := topS 12
theorem sc_subsets : FnScope nm_subsets ["many", "size"] (defScope st_subsets) := ⟨rfl, rfl, rfl, by decide +kernel, rfl, by decide +kernel, by decide +kernel⟩
theorem ok_subsets (T : Txt mg) {f : Addr} {fd : FuncData} (F : Stands K mg "subsets" st_subsets f fd) : CalAt P w K mg base "subsets" 1 f fd ["many", "size"] (spD gSubs) := by
  refine ⟨F.fn.ok sc_subsets (fun vs H Q E h => spD_len h (by rintro ds r ⟨a, b, rfl, _⟩; rfl)) (fun cdv A outer s H vs Q E hr h => ?_), F.gl, F.fn.kp, F.fn.binds fun _ _ _ _ _ _ us hl => match us, hl with | [_, _], _ => rfl⟩
  refine ⟨_, (pss_cons (ps_set (i := 2) sc_subsets.nd rfl (Or.inl rfl) (pe_lst (pa_cons (pe_tup pa_nil) pa_nil)))
      (pss_cons (ps_for PassesOwn.never rfl (pi_range1 (by rfl) T.n_range (pa_cons (pv 0) pa_nil)) (pg_name (i := 3) sc_subsets.nd rfl (Or.inr rfl)) (pss_one (ps_set (i := 2) sc_subsets.nd rfl (Or.inl rfl) (pe_op op_cat (pv 2) (pe_lc (own := [("lot", 4)]) (g := (gName 4)) (tt := _) rfl sc_subsets.nd (pi_list (pv 2)) (blkOk_by (N := nm_subsets) (sc := (defScope st_subsets)) (by decide +kernel)) (fun _ _ _ _ _ => (pg_name (i := 4) sc_subsets.nd rfl (Or.inl rfl))) (fun _ _ _ _ _ => (pts_one (pt_cmpR op_lt (pe_callB (r := rLenD K) call_len_seq (by rfl) T.n_len PySem.boot_len (pa_cons (pv 4) pa_nil)) (pv 1) (nomark _)))) (fun _ _ _ _ _ => (pe_op (r := rCatA K) op_catA (pv 4) (pe_tup (pa_cons (pv 3) pa_nil)))))))))
      (pss_one (ps_ret (pe_callB (r := rSortD K) (cr_sortedD rfl (Room.u65 hr)) (by rfl) T.n_sorted (by decide +kernel) (pa_cons (pe_lc (own := [("lot", 4)]) (g := (gName 4)) (tt := _) rfl sc_subsets.nd (pi_list (pv 2)) (blkOk_by (N := nm_subsets) (sc := (defScope st_subsets)) (by decide +kernel)) (fun _ _ _ _ _ => (pg_name (i := 4) sc_subsets.nd rfl (Or.inl rfl))) (fun _ _ _ _ _ => (pts_one (pt_cmpR (r := rEqD K) (op_eqD hr.units) (pe_callB (r := rLenD K) call_len_seq (by rfl) T.n_len PySem.boot_len (pa_cons (pv 4) pa_nil)) (pv 1) (nomark _)))) (fun _ _ _ _ _ => (pv 4))) pa_nil)))))), ?_⟩
  refine run_spD h ?_
  rintro ds r ⟨n, s, rfl, hn, hs, rfl⟩ b D hD
  refine gs_asg (d := .list [.tuple []]) (de_lst (da_cons (de_tup da_nil (Nat.zero_le _)) da_nil) (by decide)) ?_
  refine gs_forN (xs := List.range n) (enc := fun (k : Nat) => .int (k : Int)) (fun pre => [.dat (.int n), .dat (.int s), .dat (.list ((grow s pre.length).map lD)), .any, .any]) (fun _ => True)
    (di_rng1 (n := (n : Int)) (da_cons (de_var rfl) da_nil) (by omega)) (LeE.refl _) trivial (fun pre k post c e _ h1 h2 => ?_) fun _ => ?_
  · obtain ⟨ek, hk⟩ := range_at e
    have lp : (grow s pre.length).length ≤ 4096 := grow_small (by omega)
    refine go_asg (d := .list ((grow s (pre ++ [k]).length).map lD)) (de_is (de_catL (de_var rfl) (de_lc (xs := grow s pre.length) (enc := lD) (p := fun l => decide (l.length < s)) (f := fun l => lD (l ++ [k])) (js := [4]) (di_list (de_var rfl)) (by omega) (by decide) (fun _ _ => dg_name)
      (fun l hl => dt_is (dt_test (de_cmp (p := fun i j => decide (i < j)) (de_cb (da_cons (de_var rfl) da_nil) (dc_len (.t _))) (de_var rfl))) ?_)
      fun l hl _ => de_is (de_catT (de_var rfl) (de_tup (da_cons (de_var rfl) da_nil) (by show 1 ≤ _; decide)) ?_) ?_) ?_) ?_) (go_turn trivial (.eq (.eq (.eq (.any (.any .nil))))))
    · rw [List.length_map, List.length_map]
      exact dec_len _ _
    · have := (mem_grow.mp hl).1.length_le
      rw [List.length_range] at this
      simp
      omega
    · simp [lD, tI, nD]
    · rw [List.length_map, List.length_map]
      have := List.length_filter_le (fun l : List Nat => decide (l.length < s)) (grow s pre.length)
      omega
    · rw [List.length_append, List.length_singleton, grow, ek, List.map_append, List.map_map]
      rfl
  · rw [List.length_range]
    have ln : (grow s n).length ≤ 4096 := grow_small hn
    refine go_ret (d := .list ((lots n s).map lD)) (de_cb (da_cons (de_lc (xs := grow s n) (enc := lD) (p := fun l => decide (l.length = s)) (f := lD) (js := [4]) (di_list (de_var rfl)) (by omega) (by decide) (fun _ _ => dg_name)
      (fun l hl => dt_is (dt_test (de_eq (de_cb (da_cons (de_var rfl) da_nil) (dc_len (.t _))) (de_var rfl) rfl rfl)) ?_) fun l hl _ => de_var rfl) da_nil) (dc_sorted (fun a b => alike_tI _ _) (sortable_pos (enc := fun l : List Nat => (nD l).map .int) fun l hl => ?_) fun l _ => depth_tI' _)) hD.rt
    · rw [List.length_map, List.length_map]
      exact eqv_nat _ _
    · have := of_decide_eq_true (List.mem_filter.mp hl).2
      intro z
      have e0 : l = [] := by simpa using z
      rw [e0, List.length_nil] at this
      omega
abbrev nm__law_subsets : List Str := ["_law_many", "_law_size", "_law_found", "_law_k", "_law_lot"]
abbrev st__law_subsets : Stmt := topS 27
theorem sc__law_subsets : FnScope nm__law_subsets ["_law_many", "_law_size"] (defScope st__law_subsets) := ⟨rfl, rfl, rfl, by decide +kernel, rfl, by decide +kernel, by decide +kernel⟩
theorem ok__law_subsets (T : Txt mg) {f : Addr} {fd : FuncData} (F : Stands K mg "_law_subsets" st__law_subsets f fd) : CalAt P w K mg base "_law_subsets" 1 f fd ["_law_many", "_law_size"] (spD gSubs) := by
  refine ⟨F.fn.ok sc__law_subsets (fun vs H Q E h => spD_len h (by rintro ds r ⟨a, b, rfl, _⟩; rfl)) (fun cdv A outer s H vs Q E hr h => ?_), F.gl, F.fn.kp, F.fn.binds fun _ _ _ _ _ _ us hl => match us, hl with | [_, _], _ => rfl⟩
  refine ⟨_, (pss_cons (ps_set (i := 2) sc__law_subsets.nd rfl (Or.inl rfl) (pe_lst (pa_cons (pe_tup pa_nil) pa_nil)))
      (pss_cons (ps_for PassesOwn.never rfl (pi_range1 (by rfl) T.n_range (pa_cons (pv 0) pa_nil)) (pg_name (i := 3) sc__law_subsets.nd rfl (Or.inr rfl)) (pss_one (ps_set (i := 2) sc__law_subsets.nd rfl (Or.inl rfl) (pe_op op_cat (pv 2) (pe_lc (own := [("_law_lot", 4)]) (g := (gName 4)) (tt := _) rfl sc__law_subsets.nd (pi_list (pv 2)) (blkOk_by (N := nm__law_subsets) (sc := (defScope st__law_subsets)) (by decide +kernel)) (fun _ _ _ _ _ => (pg_name (i := 4) sc__law_subsets.nd rfl (Or.inl rfl))) (fun _ _ _ _ _ => (pts_one (pt_cmpR op_lt (pe_callB (r := rLenD K) call_len_seq (by rfl) T.n_len PySem.boot_len (pa_cons (pv 4) pa_nil)) (pv 1) (nomark _)))) (fun _ _ _ _ _ => (pe_op (r := rCatA K) op_catA (pv 4) (pe_tup (pa_cons (pv 3) pa_nil)))))))))
      (pss_one (ps_ret (pe_callB (r := rSortD K) (cr_sortedD rfl (Room.u65 hr)) (by rfl) T.n_sorted (by decide +kernel) (pa_cons (pe_lc (own := [("_law_lot", 4)]) (g := (gName 4)) (tt := _) rfl sc__law_subsets.nd (pi_list (pv 2)) (blkOk_by (N := nm__law_subsets) (sc := (defScope st__law_subsets)) (by decide +kernel)) (fun _ _ _ _ _ => (pg_name (i := 4) sc__law_subsets.nd rfl (Or.inl rfl))) (fun _ _ _ _ _ => (pts_one (pt_cmpR (r := rEqD K) (op_eqD hr.units) (pe_callB (r := rLenD K) call_len_seq (by rfl) T.n_len PySem.boot_len (pa_cons (pv 4) pa_nil)) (pv 1) (nomark _)))) (fun _ _ _ _ _ => (pv 4))) pa_nil)))))), ?_⟩
  refine run_spD h ?_
  rintro ds r ⟨n, s, rfl, hn, hs, rfl⟩ b D hD
  refine gs_asg (d := .list [.tuple []]) (de_lst (da_cons (de_tup da_nil (Nat.zero_le _)) da_nil) (by decide)) ?_
  refine gs_forN (xs := List.range n) (enc := fun (k : Nat) => .int (k : Int)) (fun pre => [.dat (.int n), .dat (.int s), .dat (.list ((grow s pre.length).map lD)), .any, .any]) (fun _ => True)
    (di_rng1 (n := (n : Int)) (da_cons (de_var rfl) da_nil) (by omega)) (LeE.refl _) trivial (fun pre k post c e _ h1 h2 => ?_) fun _ => ?_
  · obtain ⟨ek, hk⟩ := range_at e
    have lp : (grow s pre.length).length ≤ 4096 := grow_small (by omega)
    refine go_asg (d := .list ((grow s (pre ++ [k]).length).map lD)) (de_is (de_catL (de_var rfl) (de_lc (xs := grow s pre.length) (enc := lD) (p := fun l => decide (l.length < s)) (f := fun l => lD (l ++ [k])) (js := [4]) (di_list (de_var rfl)) (by omega) (by decide) (fun _ _ => dg_name)
      (fun l hl => dt_is (dt_test (de_cmp (p := fun i j => decide (i < j)) (de_cb (da_cons (de_var rfl) da_nil) (dc_len (.t _))) (de_var rfl))) ?_)
      fun l hl _ => de_is (de_catT (de_var rfl) (de_tup (da_cons (de_var rfl) da_nil) (by show 1 ≤ _; decide)) ?_) ?_) ?_) ?_) (go_turn trivial (.eq (.eq (.eq (.any (.any .nil))))))
    · rw [List.length_map, List.length_map]
      exact dec_len _ _
    · have := (mem_grow.mp hl).1.length_le
      rw [List.length_range] at this
      simp
      omega
    · simp [lD, tI, nD]
    · rw [List.length_map, List.length_map]
      have := List.length_filter_le (fun l : List Nat => decide (l.length < s)) (grow s pre.length)
      omega
    · rw [List.length_append, List.length_singleton, grow, ek, List.map_append, List.map_map]
      rfl
  · rw [List.length_range]
    have ln : (grow s n).length ≤ 4096 := grow_small hn
    refine go_ret (d := .list ((lots n s).map lD)) (de_cb (da_cons (de_lc (xs := grow s n) (enc := lD) (p := fun l => decide (l.length = s)) (f := lD) (js := [4]) (di_list (de_var rfl)) (by omega) (by decide) (fun _ _ => dg_name)
      (fun l hl => dt_is (dt_test (de_eq (de_cb (da_cons (de_var rfl) da_nil) (dc_len (.t _))) (de_var rfl) rfl rfl)) ?_) fun l hl _ => de_var rfl) da_nil) (dc_sorted (fun a b => alike_tI _ _) (sortable_pos (enc := fun l : List Nat => (nD l).map .int) fun l hl => ?_) fun l _ => depth_tI' _)) hD.rt
    · rw [List.length_map, List.length_map]
      exact eqv_nat _ _
    · have := of_decide_eq_true (List.mem_filter.mp hl).2
      intro z
      have e0 : l = [] := by simpa using z
      rw [e0, List.length_nil] at this
      omega
end LW

namespace LW
open PySem PySem.Spec PyProof.Rows L2
open Evl (Ex)
variable {P : Program} {w : World} {K : PySem.W.Frag} {mg : Str → Option Value} {base : Heap}

theorem go_fall {b : Bs} {env : EnvT} {D : Ends} (hD : Gives b D .none) : Go b env D.nx := fun σ H ⟨B, e1, w1, o, f⟩ => hD.nx rfl σ B H w1
def Full (d : Nat) (S : List (List Int)) : Prop := ∃ lot ∈ lots S.length (d + 1), det (waysM S lot) ≠ 0
/-- what the law's draw gives -/
structure Shp (d : Nat) (S : List (List Int)) : Prop where
  d1 : 1 ≤ d
  d3 : d ≤ 3
  len : ∀ p ∈ S, p.length = d
  box : ∀ p ∈ S, ∀ x ∈ p, -50 ≤ x ∧ x ≤ 50
  nd : S.Nodup
  n2 : 2 ≤ S.length
  n12 : S.length ≤ 12
theorem Shp.ne {d : Nat} {S : List (List Int)} (h : Shp d S) : ∃ p T, S = p :: T := by
  have := h.n2
  cases S with
  | nil => simp at this
  | cons p T => exact ⟨p, T, rfl⟩
theorem at_pt0 {S : List (List Int)} {i : Int} {k : Nat} (e : i = (k : Int)) (h : k < S.length) : atI (S.map tI) i = some (tI (pt S k)) := by
  rw [e]
  exact at_pt h
theorem pt_not_before {S : List (List Int)} (h : S.Nodup) {k : Nat} (hk : k < S.length) : pt S k ∉ S.take k := fun hm => by
  obtain ⟨j, hj, e⟩ := List.getElem_of_mem hm
  rw [List.length_take] at hj
  rw [List.getElem_take] at e
  have e2 : pt S k = S[k] := by rw [pt, List.getD_eq_getElem?_getD, List.getElem?_eq_getElem hk]; rfl
  rw [e2] at e
  have := (List.getElem_inj h).mp e
  omega
theorem shaped_tT (S : List (List Int)) : SeqAt.shaped (tT S) = true := shaped_tuple lay_tI fun a => Nat.le_trans (depth_tI a) (by decide)

abbrev nm_need_items : List Str := ["shape", "at", "good"]
abbrev st_need_items : Stmt := topS 20
theorem sc_need_items : FnScope nm_need_items ["shape"] (defScope st_need_items) := ⟨rfl, rfl, rfl, by decide +kernel, rfl, by decide +kernel, by decide +kernel⟩
def gItems (ds : List PyData) (r : PyData) : Prop := ∃ d S, Shp d S ∧ ds = [tT S] ∧ r = .none
theorem ok_need_items (T : Txt mg) (C_is_vector : ∃ f fd, CalAt P w K mg base "is_vector" 2 f fd ["value", "size", "low", "high"] (spD gIsVec)) {f : Addr} {fd : FuncData} (F : Stands K mg "need_items" st_need_items f fd) : CalAt P w K mg base "need_items" 3 f fd ["shape"] (spD gItems) := by
  obtain ⟨_, _, C_is_vector⟩ := C_is_vector
  obtain ⟨tm, hMOST⟩ := T.most
  obtain ⟨tf, hFAR⟩ := T.far
  refine ⟨F.fn.ok sc_need_items (fun vs H Q E h => spD_len h (by rintro ds r ⟨d, S, _, rfl, _⟩; rfl)) (fun cdv A outer s H vs Q E hr h => ?_), F.gl, F.fn.kp, F.fn.binds fun _ _ _ _ _ _ us hl => match us, hl with | [_], _ => rfl⟩
  refine ⟨_, (pss_cons (ps_if (PW.pt (pw_or (pt_not (pt_val (pe_callB (r := rIsi K) call_isi (by rfl) T.n_isinstance (by decide +kernel) (pa_cons (pv 0) (pa_cons (pe_bltn (v := .ty "tuple") (u := .type "tuple") (by rfl) T.n_tuple (by decide +kernel) rfl) pa_nil))))) (pw_or1 (pt_not (pt_chain op_le op_le pe_int (pe_callB (r := rLenD K) call_len_seq (by rfl) T.n_len PySem.boot_len (pa_cons (pv 0) pa_nil)) (pe_glob (v := .int 12) rfl hMOST ⟨_, rfl⟩)))))) pss_never pss_nil)
      (pss_one (ps_for PassesOwn.never rfl (pi_range1 (by rfl) T.n_range (pa_cons (pe_callB (r := rLenD K) call_len_seq (by rfl) T.n_len PySem.boot_len (pa_cons (pv 0) pa_nil)) pa_nil)) (pg_name (i := 1) sc_need_items.nd rfl (Or.inl rfl)) (pss_cons (ps_set (i := 2) sc_need_items.nd rfl (Or.inl rfl) (pe_and (pe_callB (r := rIsi K) call_isi (by rfl) T.n_isinstance (by decide +kernel) (pa_cons (pe_ix (r := rIxT K) ix_tup (pv 0) (pv 1) (fun _ _ => rfl)) (pa_cons (pe_bltn (v := .ty "tuple") (u := .type "tuple") (by rfl) T.n_tuple (by decide +kernel) rfl) pa_nil))) (pe_one (pe_chain op_le op_le pe_int (pe_callB (r := rLenD K) call_len_seq (by rfl) T.n_len PySem.boot_len (pa_cons (pe_ix (r := rIxT K) ix_tup (pv 0) (pv 1) (fun _ _ => rfl)) pa_nil)) pe_int))))
      (pss_one (ps_if (PW.pt (pw_or (pt_not (pt_val (pv 2))) (pw_or (pt_not (pt_val (pe_call C_is_vector.ok (hr.mono (by first | decide | omega)) (by rfl) C_is_vector.gl C_is_vector.kp C_is_vector.bi .nil pass0 (pa_cons (pe_ix (r := rIxT K) ix_tup (pv 0) (pv 1) (fun _ _ => rfl)) (pa_cons (pe_callB (r := rLenD K) call_len_seq (by rfl) T.n_len PySem.boot_len (pa_cons (pe_ix (r := rIxT K) ix_tup (pv 0) pe_int (fun _ _ => rfl)) pa_nil)) (pa_cons (pe_un un_neg (pe_glob (v := .int 50) rfl hFAR ⟨_, rfl⟩)) (pa_cons (pe_glob (v := .int 50) rfl hFAR ⟨_, rfl⟩) pa_nil))))))) (pw_or1 (pt_cmpR (r := rInDT K) (op_inDT (Room.u65 hr)) (pe_ix (r := rIxT K) ix_tup (pv 0) (pv 1) (fun _ _ => rfl)) (pe_slice (r := rSlA K) sl_tupA (pv 0) po_none (po_some (pv 1))) (by rfl)))))) pss_never pss_nil)))))), ?_⟩
  refine run_spD h ?_
  rintro ds r ⟨d, S, hS, rfl, rfl⟩ b D hD
  have n2 := hS.n2
  have n12 := hS.n12
  have p0 : (pt S 0).length = d := hS.len _ (pt_mem (by omega))
  have hd := hS.d1
  have hd3 := hS.d3
  refine gs_when (c := false) (dt_is (dt_or (dt_not (dt_val (de_isi (de_var rfl) kit_tuple_tuple))) fun _ => dt_not (dt_val (de_chainI (p := fun i j => decide (i ≤ j)) (p' := fun i j => decide (i ≤ j)) (de_int) (de_cb (da_cons (de_var rfl) da_nil) (dc_len (.t _))) (de_glob fun B => .int 12)))) ?_) (fun h => by cases h) fun _ => ?_
  · rw [List.length_map, decide_eq_true (show (2 : Int) ≤ (S.length : Int) by omega), decide_eq_true (show (S.length : Int) ≤ 12 by omega)]
    rfl
  refine go_forN (xs := List.range S.length) (enc := fun (k : Nat) => .int (k : Int)) (fun pre => [.dat (tT S), .any, .any]) (fun _ => True)
    (di_rng1 (n := (S.length : Int)) (da_cons (de_is (de_cb (da_cons (de_var rfl) da_nil) (dc_len (.t _))) (by rw [List.length_map])) da_nil) (by omega)) (LeE.refl _) trivial (fun pre k post c e _ h1 h2 => ?_) fun _ => go_fall hD
  obtain ⟨ek, hk⟩ := range_at e
  have pk : (pt S k).length = d := hS.len _ (pt_mem hk)
  refine gs_asg (d := .bool true) (de_is (de_andV (de_isi (de_ixT (de_var rfl) (de_var rfl) (at_pt hk)) kit_tuple_tuple) fun _ => de_chainI (p := fun i j => decide (i ≤ j)) (p' := fun i j => decide (i ≤ j)) de_int (de_cb (da_cons (de_ixT (de_var rfl) (de_var rfl) (at_pt hk)) da_nil) (dc_len (.t _))) de_int) ?_) ?_
  · rw [List.length_map, pk, decide_eq_true (show (1 : Int) ≤ (d : Int) by omega), decide_eq_true (show (d : Int) ≤ 3 by omega)]
    rfl
  refine go_when (c := false) (dt_is (dt_or (dt_not (dt_val (de_var (d := .bool true) rfl))) fun _ => dt_or (dt_not (dt_val (de_call (r := .bool true) (da_cons (de_ixT (de_var rfl) (de_var rfl) (at_pt hk)) (da_cons (de_cb (da_cons (de_ixT (de_var rfl) de_int (at_pt0 (k := 0) rfl (by omega))) da_nil) (dc_len (.t _))) (da_cons (de_neg (de_glob fun B => .int 50)) (da_cons (de_glob fun B => .int 50) da_nil)))) ⟨pt S k, d, -50, 50, ?_, by omega, by rw [pk], fun x hx => hS.box _ (pt_mem hk) x hx, rfl⟩)))
    fun _ => dt_test (de_inT (ds := (S.take k).map tI) (de_ixT (de_var rfl) (de_var rfl) (at_pt hk)) (de_is (de_slT (de_var rfl) do_none (do_some (de_var rfl))) (by rw [cutD_to, List.map_take])) (shaped_tI _) (shaped_tT _))) ?_) (fun h => by cases h) fun _ => go_turn trivial (.eq (.any (.any .nil)))
  · rw [List.length_map, p0]
  · rw [any_eqv (enc := tI) eqv_tI]
    simp [pt_not_before hS.nd hk]

/-! ### the differences -/
theorem lessM_len {a b : List Int} {d : Nat} (ha : a.length = d) (hb : b.length = d) : (lessM a b).length = d := by
  unfold lessM
  rw [List.length_zipWith, ha, hb, Nat.min_self]
theorem zipWith_mem {f : Int → Int → Int} {a b : List Int} {x : Int} (h : x ∈ List.zipWith f a b) : ∃ u v, u ∈ a ∧ v ∈ b ∧ x = f u v := by
  induction a generalizing b with
  | nil => simp at h
  | cons u a ih =>
    cases b with
    | nil => simp at h
    | cons v b =>
      rw [List.zipWith_cons_cons] at h
      rcases List.mem_cons.mp h with h | h
      · exact ⟨u, v, by simp, by simp, h⟩
      · obtain ⟨u', v', h1, h2, h3⟩ := ih h
        exact ⟨u', v', List.mem_cons_of_mem _ h1, List.mem_cons_of_mem _ h2, h3⟩
theorem ways_row {d : Nat} {S : List (List Int)} (hS : Shp d S) {lot : List Nat} (hl : ∀ k ∈ lot, k < S.length) {r : List Int} (hr : r ∈ waysM S lot) : r.length = d ∧ ∀ x ∈ r, -100 ≤ x ∧ x ≤ 100 := by
  obtain ⟨k, hk, rfl⟩ := List.mem_map.mp hr
  have h1 : k ∈ lot := List.mem_of_mem_drop hk
  have h0 : lot.headD 0 ∈ lot := by
    cases lot with
    | nil => simp at h1
    | cons l t => simp
  have m1 := pt_mem (hl _ h1)
  have m0 := pt_mem (hl _ h0)
  refine ⟨lessM_len (hS.len _ m1) (hS.len _ m0), fun x hx => ?_⟩
  obtain ⟨u, v, hu, hv, rfl⟩ := zipWith_mem hx
  have := hS.box _ m1 u hu
  have := hS.box _ m0 v hv
  omega
theorem ways_sm {d : Nat} {S : List (List Int)} (hS : Shp d S) {lot : List Nat} (hl : ∀ k ∈ lot, k < S.length) : ∀ r ∈ waysM S lot, Sm r := fun r hr x hx => by
  have := (ways_row hS hl hr).2 x hx
  omega
theorem ways_len {S : List (List Int)} {lot : List Nat} : (waysM S lot).length = lot.length - 1 := by
  unfold waysM
  rw [List.length_map, List.length_drop]
theorem row1 {r : List Int} (h : r.length = 1) : ∃ a, r = [a] := by
  match r, h with
  | [a], _ => exact ⟨a, rfl⟩
theorem row2 {r : List Int} (h : r.length = 2) : ∃ a b, r = [a, b] := by
  match r, h with
  | [a, b], _ => exact ⟨a, b, rfl⟩
theorem row3 {r : List Int} (h : r.length = 3) : ∃ a b c, r = [a, b, c] := by
  match r, h with
  | [a, b, c], _ => exact ⟨a, b, c, rfl⟩
theorem sq_rows {d : Nat} {ws : List (List Int)} (d1 : 1 ≤ d) (d3 : d ≤ 3) (hl : ws.length = d) (hr : ∀ r ∈ ws, r.length = d) : (∃ a, ws = [[a]]) ∨ (∃ a b c d, ws = [[a, b], [c, d]]) ∨ ∃ a b c d e f g h i, ws = [[a, b, c], [d, e, f], [g, h, i]] := by
  match d, ws, hl with
  | 1, [r], _ =>
    obtain ⟨a, rfl⟩ := row1 (hr r (by simp))
    exact .inl ⟨a, rfl⟩
  | 2, [r, s], _ =>
    obtain ⟨a, b, rfl⟩ := row2 (hr r (by simp))
    obtain ⟨c, d, rfl⟩ := row2 (hr s (by simp))
    exact .inr (.inl ⟨a, b, c, d, rfl⟩)
  | 3, [r, s, t], _ =>
    obtain ⟨a, b, c, rfl⟩ := row3 (hr r (by simp))
    obtain ⟨d, e, f, rfl⟩ := row3 (hr s (by simp))
    obtain ⟨g, h, i, rfl⟩ := row3 (hr t (by simp))
    exact .inr (.inr ⟨a, b, c, d, e, f, g, h, i, rfl⟩)
theorem fl_rows {d : Nat} {ws : List (List Int)} (d1 : 1 ≤ d) (d3 : d ≤ 3) (hl : ws.length = d - 1) (hr : ∀ r ∈ ws, r.length = d) : (d = 1 ∧ ws = []) ∨ (d = 2 ∧ ∃ p q, ws = [[p, q]]) ∨ (d = 3 ∧ ∃ a b c e f g, ws = [[a, b, c], [e, f, g]]) := by
  match d, ws, hl with
  | 1, [], _ => exact .inl ⟨rfl, rfl⟩
  | 2, [r], _ =>
    obtain ⟨a, b, rfl⟩ := row2 (hr r (by simp))
    exact .inr (.inl ⟨rfl, a, b, rfl⟩)
  | 3, [r, s], _ =>
    obtain ⟨a, b, c, rfl⟩ := row3 (hr r (by simp))
    obtain ⟨d, e, f, rfl⟩ := row3 (hr s (by simp))
    exact .inr (.inr ⟨rfl, a, b, c, d, e, f, rfl⟩)

abbrev nm_need_shape : List Str := ["shape", "lot"]
abbrev st_need_shape : Stmt := topS 21
theorem sc_need_shape : FnScope nm_need_shape ["shape"] (defScope st_need_shape) := ⟨rfl, rfl, rfl, by decide +kernel, rfl, by decide +kernel, by decide +kernel⟩
def gShape (ds : List PyData) (r : PyData) : Prop := ∃ d S, Shp d S ∧ Full d S ∧ ds = [tT S] ∧ r = .none
theorem ok_need_shape (T : Txt mg) (C_need_items : ∃ f fd, CalAt P w K mg base "need_items" 3 f fd ["shape"] (spD gItems)) (C_subsets : ∃ f fd, CalAt P w K mg base "subsets" 1 f fd ["many", "size"] (spD gSubs))
    (C_determinant : ∃ f fd, CalAt P w K mg base "determinant" 2 f fd ["rows"] (spD gDet)) (C_ways_from : ∃ f fd, CalAt P w K mg base "ways_from" 2 f fd ["shape", "lot"] (spD gWaysF)) {f : Addr} {fd : FuncData} (F : Stands K mg "need_shape" st_need_shape f fd) : CalAt P w K mg base "need_shape" 4 f fd ["shape"] (spD gShape) := by
  obtain ⟨_, _, C_need_items⟩ := C_need_items
  obtain ⟨_, _, C_subsets⟩ := C_subsets
  obtain ⟨_, _, C_determinant⟩ := C_determinant
  obtain ⟨_, _, C_ways_from⟩ := C_ways_from
  refine ⟨F.fn.ok sc_need_shape (fun vs H Q E h => spD_len h (by rintro ds r ⟨d, S, _, _, rfl, _⟩; rfl)) (fun cdv A outer s H vs Q E hr h => ?_), F.gl, F.fn.kp, F.fn.binds fun _ _ _ _ _ _ us hl => match us, hl with | [_], _ => rfl⟩
  refine ⟨_, (pss_cons (ps_expr (pe_call C_need_items.ok (hr.mono (by first | decide | omega)) (by rfl) C_need_items.gl C_need_items.kp C_need_items.bi .nil pass0 (pa_cons (pv 0) pa_nil)))
      (pss_one (ps_if (pt_cmpR (r := rEqD K) (op_eqD hr.units) (pe_lc (own := [("lot", 1)]) (g := (gName 1)) (tt := _) rfl sc_need_shape.nd (pi_list (pe_call C_subsets.ok (hr.mono (by first | decide | omega)) (by rfl) C_subsets.gl C_subsets.kp C_subsets.bi .nil pass0 (pa_cons (pe_callB (r := rLenD K) call_len_seq (by rfl) T.n_len PySem.boot_len (pa_cons (pv 0) pa_nil)) (pa_cons (pe_op op_add (pe_callB (r := rLenD K) call_len_seq (by rfl) T.n_len PySem.boot_len (pa_cons (pe_ix (r := rIxT K) ix_tup (pv 0) pe_int (fun _ _ => rfl)) pa_nil)) pe_int) pa_nil)))) (blkOk_by (N := nm_need_shape) (sc := (defScope st_need_shape)) (by decide +kernel)) (fun _ _ _ _ _ => (pg_name (i := 1) sc_need_shape.nd rfl (Or.inl rfl))) (fun _ _ _ _ _ => (pts_one (pt_cmpR (r := rNeD K) (op_neD hr.units) (pe_call C_determinant.ok (hr.mono (by first | decide | omega)) (by rfl) C_determinant.gl C_determinant.kp C_determinant.bi .nil pass0 (pa_cons (pe_call C_ways_from.ok (hr.mono (by first | decide | omega)) (by rfl) C_ways_from.gl C_ways_from.kp C_ways_from.bi .nil pass0 (pa_cons (pv 0) (pa_cons (pv 1) pa_nil))) pa_nil)) pe_int (nomark _)))) (fun _ _ _ _ _ => (pv 1))) (pe_lst pa_nil) (nomark _)) pss_never pss_nil))), ?_⟩
  refine run_spD h ?_
  rintro ds r ⟨d, S, hS, hF, rfl, rfl⟩ b D hD
  have n2 := hS.n2
  have n12 := hS.n12
  have p0 : (pt S 0).length = d := hS.len _ (pt_mem (by omega))
  have hd := hS.d1
  have hd3 := hS.d3
  refine gs_drop (d := .none) (de_call (da_cons (de_var rfl) da_nil) ⟨d, S, hS, rfl, rfl⟩) ?_
  refine go_when (c := false) (dt_is (dt_test (de_eq (de_lc (xs := lots S.length (d + 1)) (enc := lD) (p := fun l => !PyData.eqv (.int (det (waysM S l))) (.int 0)) (f := lD) (js := [1])
    (di_list (de_call (da_cons (de_cb (da_cons (de_var rfl) da_nil) (dc_len (.t _))) (da_cons (de_add (de_cb (da_cons (de_ixT (de_var rfl) de_int (at_pt0 (k := 0) rfl (by omega))) da_nil) (dc_len (.t _))) de_int) da_nil)) ⟨S.length, d + 1, ?_, by omega, by omega, rfl⟩)) (Nat.le_trans (lots_len (by omega)) (by decide)) (by decide) (fun _ _ => dg_name)
    (fun l hl => dt_test (de_ne (de_call (r := .int (det (waysM S l))) (da_cons (de_call (r := lT (waysM S l)) (da_cons (de_var rfl) (da_cons (de_var rfl) da_nil)) ⟨S, l, rfl, ?_, ?_, lots_lt hl, fun p hp => by rw [hS.len p hp]; omega, rfl⟩) da_nil) ⟨waysM S l, rfl, ?_, ways_sm hS (lots_lt hl), rfl⟩) de_int rfl rfl)) fun l hl _ => de_var rfl) (de_lst da_nil (by decide)) (shaped_list (fun l => lay_tI _) fun l => Nat.le_trans (depth_tI _) (by decide)) shaped_nil)) ?_) (fun h => by cases h) fun _ => go_fall hD
  · rw [List.length_map, List.length_map, p0]
    rfl
  · intro e
    have := (mem_lots.mp hl).2
    rw [e] at this
    simp at this
  · have := (mem_lots.mp hl).2
    omega
  · refine sq_rows hd hd3 ?_ fun r hr => (ways_row hS (lots_lt hl) hr).1
    rw [ways_len, (mem_lots.mp hl).2]
    omega
  · rw [eqv_nil]
    obtain ⟨l, hl, hz⟩ := hF
    rw [List.isEmpty_eq_false_iff]
    intro e
    have hm : lD l ∈ (List.filter (fun l => !PyData.eqv (.int (det (waysM S l))) (.int 0)) (lots S.length (d + 1))).map lD := List.mem_map.mpr ⟨l, List.mem_filter.mpr ⟨hl, by simp [PyData.eqv, hz]⟩, rfl⟩
    rw [e] at hm
    cases hm
end LW

namespace LW
open PySem PySem.Spec PyProof.Rows L2
open Evl (Ex)
variable {P : Program} {w : World} {K : PySem.W.Frag} {mg : Str → Option Value} {base : Heap}

/-! ### the common divisor -/
theorem gcdL_snoc (a : List Int) (x : Int) : gcdL (a ++ [x]) = Int.gcd (gcdL a) x := by
  unfold gcdL
  rw [List.foldl_append]
  rfl
theorem snoc_ind {α : Type} {p : List α → Prop} (h0 : p []) (h1 : ∀ l x, p l → p (l ++ [x])) (l : List α) : p l := by
  have : ∀ n (l : List α), l.length = n → p l := by
    intro n
    induction n with
    | zero => intro l hl; rw [List.eq_nil_of_length_eq_zero hl]; exact h0
    | succ n ih =>
      intro l hl
      have e := List.dropLast_concat_getLast (l := l) (by intro z; rw [z] at hl; simp at hl)
      rw [← e]
      exact h1 _ _ (ih _ (by rw [List.length_dropLast, hl]; rfl))
  exact this _ l rfl
theorem gcdL_dvd (a : List Int) : ∀ x ∈ a, (gcdL a : Int) ∣ x := by
  refine snoc_ind (p := fun a => ∀ x ∈ a, (gcdL a : Int) ∣ x) (fun x hx => by cases hx) (fun l y ih x hx => ?_) a
  rw [gcdL_snoc]
  rcases List.mem_append.mp hx with h | h
  · exact Int.dvd_trans (Int.gcd_dvd_left _ _) (ih x h)
  · have e : x = y := by simpa using h
    rw [e]
    exact Int.gcd_dvd_right _ _
theorem gcdL_lt {n : Nat} (hn : 0 < n) (a : List Int) (h : ∀ x ∈ a, x.natAbs < n) : gcdL a < n := by
  refine snoc_ind (p := fun a => (∀ x ∈ a, x.natAbs < n) → gcdL a < n) (fun _ => hn) (fun l y ih h => ?_) a h
  have h1 := ih fun x hx => h x (List.mem_append_left _ hx)
  have h2 := h y (by simp)
  rw [gcdL_snoc]
  by_cases z : gcdL l = 0
  · rw [z]
    simpa using h2
  · have : Int.gcd (gcdL l : Int) y ≤ gcdL l := by
      have := Nat.gcd_le_left (m := gcdL l) y.natAbs (Nat.pos_of_ne_zero z)
      simpa [Int.gcd] using this
    omega
theorem primM_small {n : Nat} (a : List Int) (h : ∀ x ∈ a, x.natAbs < n) : ∀ x ∈ primM a, x.natAbs < n := by
  intro x hx
  unfold primM at hx
  split at hx
  · obtain ⟨y, hy, rfl⟩ := List.mem_map.mp hx
    rw [Int.natAbs_ediv_of_dvd (gcdL_dvd a y hy)]
    exact Nat.lt_of_le_of_lt (Nat.div_le_self _ _) (h y hy)
  · exact h x hx
theorem primM_len (a : List Int) : (primM a).length = a.length := by
  unfold primM
  split <;> simp
theorem mul_small {a b : Int} {m n : Nat} (ha : a.natAbs ≤ m) (hb : b.natAbs ≤ n) : (a * b).natAbs ≤ m * n := by
  rw [Int.natAbs_mul]
  exact Nat.mul_le_mul ha hb
theorem normal_small {d : Nat} {ws : List (List Int)} (h : (d = 1 ∧ ws = []) ∨ (d = 2 ∧ ∃ p q, ws = [[p, q]]) ∨ (d = 3 ∧ ∃ a b c e f g, ws = [[a, b, c], [e, f, g]])) (hs : ∀ r ∈ ws, ∀ x ∈ r, -100 ≤ x ∧ x ≤ 100) : (normalM d ws).length = d ∧ ∀ x ∈ normalM d ws, x.natAbs < 100000 := by
  rcases h with ⟨rfl, rfl⟩ | ⟨rfl, p, q, rfl⟩ | ⟨rfl, a, b, c, e, f, g, rfl⟩
  · simp [normalM]
  · have h1 := hs [p, q] (by simp) p (by simp)
    have h2 := hs [p, q] (by simp) q (by simp)
    refine ⟨rfl, fun x hx => ?_⟩
    simp [normalM] at hx
    rcases hx with rfl | rfl <;> omega
  · have h1 := hs [a, b, c] (by simp)
    have h2 := hs [e, f, g] (by simp)
    have ha := h1 a (by simp)
    have hb := h1 b (by simp)
    have hc := h1 c (by simp)
    have he := h2 e (by simp)
    have hf := h2 f (by simp)
    have hg := h2 g (by simp)
    have key : ∀ u v : Int, (-100 ≤ u ∧ u ≤ 100) → (-100 ≤ v ∧ v ≤ 100) → (u * v).natAbs ≤ 10000 := fun u v hu hv => mul_small (m := 100) (n := 100) (by omega) (by omega)
    refine ⟨rfl, fun x hx => ?_⟩
    have k1 := key b g hb hg
    have k2 := key c f hc hf
    have k3 := key a g ha hg
    have k4 := key c e hc he
    have k5 := key a f ha hf
    have k6 := key b e hb he
    simp [normalM] at hx
    rcases hx with rfl | rfl | rfl <;> omega

/-! ### what is kept -/
def sideLe (S : List (List Int)) (a : List Int) (b : Int) : Bool := decide (∀ p ∈ S, dotM a p ≤ b)
def sideGe (S : List (List Int)) (a : List Int) (b : Int) : Bool := decide (∀ p ∈ S, b ≤ dotM a p)
def facPut (S : List (List Int)) (a : List Int) (b : Int) (ps : List FP) : List FP :=
  if sideGe S a b then putP (if sideLe S a b then putP ps (a, b) else ps) (a.map (-1 * ·), -b) else if sideLe S a b then putP ps (a, b) else ps
def facStep (d : Nat) (S : List (List Int)) (ps : List FP) (lot : List Nat) : List FP :=
  if (normalM d (waysM S lot)).filter (fun x => !PyData.eqv (.int x) (.int 0)) = [] then ps
  else facPut S (primM (normalM d (waysM S lot))) (dotM (primM (normalM d (waysM S lot))) (pt S (lot.headD 0))) ps
def facs (d : Nat) (S : List (List Int)) (ls : List (List Nat)) : List FP := ls.foldl (facStep d S) []
theorem facPut_len {S : List (List Int)} {a : List Int} {b : Int} {ps : List FP} : (facPut S a b ps).length ≤ ps.length + 2 := by
  unfold facPut
  have h1 := putP_len ps (a, b)
  have h2 := putP_len ps (a.map (-1 * ·), -b)
  have h3 := putP_len (putP ps (a, b)) (a.map (-1 * ·), -b)
  split <;> split <;> omega
theorem facPut_nd {S : List (List Int)} {a : List Int} {b : Int} {ps : List FP} (h : ps.Nodup) : (facPut S a b ps).Nodup := by
  unfold facPut
  split <;> split <;> first | exact h | exact putP_nodup h | exact putP_nodup (putP_nodup h)
theorem facStep_len {d : Nat} {S : List (List Int)} {ps : List FP} {l : List Nat} : (facStep d S ps l).length ≤ ps.length + 2 := by
  unfold facStep
  split
  · omega
  · exact facPut_len
theorem facStep_nd {d : Nat} {S : List (List Int)} {ps : List FP} {l : List Nat} (h : ps.Nodup) : (facStep d S ps l).Nodup := by
  unfold facStep
  split
  · exact h
  · exact facPut_nd h
theorem facs_snoc {d : Nat} {S : List (List Int)} (ls : List (List Nat)) (l : List Nat) : facs d S (ls ++ [l]) = facStep d S (facs d S ls) l := by
  unfold facs
  rw [List.foldl_append]
  rfl
theorem facs_len {d : Nat} {S : List (List Int)} (ls : List (List Nat)) : (facs d S ls).length ≤ 2 * ls.length := by
  refine snoc_ind (p := fun ls => (facs d S ls).length ≤ 2 * ls.length) (Nat.le_refl _) (fun l x ih => ?_) ls
  rw [facs_snoc, List.length_append, List.length_singleton]
  have := facStep_len (d := d) (S := S) (ps := facs d S l) (l := x)
  omega
theorem facs_nd {d : Nat} {S : List (List Int)} (ls : List (List Nat)) : (facs d S ls).Nodup := by
  refine snoc_ind (p := fun ls => (facs d S ls).Nodup) List.nodup_nil (fun l x ih => ?_) ls
  rw [facs_snoc]
  exact facStep_nd ih
theorem ex_max : ∀ {l : List Int}, l ≠ [] → ∃ m, m ∈ l ∧ ∀ y ∈ l, y ≤ m
  | [x], _ => ⟨x, by simp, fun y hy => by rw [List.mem_singleton.mp hy]; exact Int.le_refl _⟩
  | x :: y :: l, _ => by
    obtain ⟨m, h1, h2⟩ := ex_max (l := y :: l) (by simp)
    rcases Int.le_total x m with h | h
    · exact ⟨m, List.mem_cons_of_mem _ h1, fun z hz => (List.mem_cons.mp hz).elim (fun e => by rw [e]; exact h) (h2 z)⟩
    · exact ⟨x, by simp, fun z hz => (List.mem_cons.mp hz).elim (fun e => by rw [e]; exact Int.le_refl _) fun q => Int.le_trans (h2 z q) h⟩
theorem ex_min : ∀ {l : List Int}, l ≠ [] → ∃ m, m ∈ l ∧ ∀ y ∈ l, m ≤ y
  | [x], _ => ⟨x, by simp, fun y hy => by rw [List.mem_singleton.mp hy]; exact Int.le_refl _⟩
  | x :: y :: l, _ => by
    obtain ⟨m, h1, h2⟩ := ex_min (l := y :: l) (by simp)
    rcases Int.le_total x m with h | h
    · exact ⟨x, by simp, fun z hz => (List.mem_cons.mp hz).elim (fun e => by rw [e]; exact Int.le_refl _) fun q => Int.le_trans h (h2 z q)⟩
    · exact ⟨m, List.mem_cons_of_mem _ h1, fun z hz => (List.mem_cons.mp hz).elim (fun e => by rw [e]; exact h) (h2 z)⟩
abbrev sidesM (S : List (List Int)) (a : List Int) (b : Int) : List Int := S.map fun p => dotM a p - b
theorem sides_ne {d : Nat} {S : List (List Int)} (hS : Shp d S) (a : List Int) (b : Int) : sidesM S a b ≠ [] := by
  obtain ⟨p, T, rfl⟩ := hS.ne
  simp
theorem sideLe_max {S : List (List Int)} {a : List Int} {b m : Int} (h1 : m ∈ sidesM S a b) (h2 : ∀ y ∈ sidesM S a b, y ≤ m) : decide (m ≤ 0) = sideLe S a b := by
  apply decide_eq_decide.mpr
  constructor
  · intro h p hp
    have := h2 (dotM a p - b) (List.mem_map.mpr ⟨p, hp, rfl⟩)
    omega
  · intro h
    obtain ⟨p, hp, rfl⟩ := List.mem_map.mp h1
    have := h p hp
    omega
theorem sideGe_min {S : List (List Int)} {a : List Int} {b m : Int} (h1 : m ∈ sidesM S a b) (h2 : ∀ y ∈ sidesM S a b, m ≤ y) : decide (0 ≤ m) = sideGe S a b := by
  apply decide_eq_decide.mpr
  constructor
  · intro h p hp
    have := h2 (dotM a p - b) (List.mem_map.mpr ⟨p, hp, rfl⟩)
    omega
  · intro h
    obtain ⟨p, hp, rfl⟩ := List.mem_map.mp h1
    have := h p hp
    omega
theorem head_at {l : List Nat} (h : l ≠ []) : atI ((nD l).map PyData.int) 0 = some (.int (l.headD 0 : Nat)) := by
  cases l with
  | nil => exact absurd rfl h
  | cons x t => exact atI_nat (j := 0) rfl
theorem head_mem {l : List Nat} (h : l ≠ []) : l.headD 0 ∈ l := by
  cases l with
  | nil => exact absurd rfl h
  | cons x t => simp

abbrev nm_facets_of : List Str := ["points", "lot", "size", "found", "a", "b", "sides", "x", "p"]
abbrev st_facets_of : Stmt := topS 22
theorem sc_facets_of : FnScope nm_facets_of ["points"] (defScope st_facets_of) := ⟨rfl, rfl, rfl, by decide +kernel, rfl, by decide +kernel, by decide +kernel⟩
def facetsM (d : Nat) (S : List (List Int)) : List FP := (facs d S (lots S.length d)).mergeSort (leD prD)
def gFacs (ds : List PyData) (r : PyData) : Prop := ∃ d S, Shp d S ∧ ds = [tT S] ∧ r = .list ((facetsM d S).map prD)
theorem ok_facets_of (T : Txt mg) (C_dot : ∃ f fd, CalAt P w K mg base "dot" 1 f fd ["one", "other"] (spD gDot)) (C_scaled : ∃ f fd, CalAt P w K mg base "scaled" 1 f fd ["factor", "one"] (spD gScaled)) (C_subsets : ∃ f fd, CalAt P w K mg base "subsets" 1 f fd ["many", "size"] (spD gSubs))
    (C_primitive : ∃ f fd, CalAt P w K mg base "primitive" 2 f fd ["one"] (spD gPrim)) (C_normal_to : ∃ f fd, CalAt P w K mg base "normal_to" 3 f fd ["ways", "size"] (spD gNorm)) (C_ways_from : ∃ f fd, CalAt P w K mg base "ways_from" 2 f fd ["shape", "lot"] (spD gWaysF))
    {f : Addr} {fd : FuncData} (F : Stands K mg "facets_of" st_facets_of f fd) : CalAt P w K mg base "facets_of" 4 f fd ["points"] (spD gFacs) := by
  obtain ⟨_, _, C_dot⟩ := C_dot
  obtain ⟨_, _, C_scaled⟩ := C_scaled
  obtain ⟨_, _, C_subsets⟩ := C_subsets
  obtain ⟨_, _, C_primitive⟩ := C_primitive
  obtain ⟨_, _, C_normal_to⟩ := C_normal_to
  obtain ⟨_, _, C_ways_from⟩ := C_ways_from
  refine ⟨F.fn.ok sc_facets_of (fun vs H Q E h => spD_len h (by rintro ds r ⟨d, S, _, rfl, _⟩; rfl)) (fun cdv A outer s H vs Q E hr h => ?_), F.gl, F.fn.kp, F.fn.binds fun _ _ _ _ _ _ us hl => match us, hl with | [_], _ => rfl⟩
  refine ⟨_, (pss_cons (ps_par (i := 2) (j := 3) (by rfl) sc_facets_of.nd rfl rfl (by decide) rfl rfl (pa_cons (pe_callB (r := rLenD K) call_len_seq (by rfl) T.n_len PySem.boot_len (pa_cons (pe_ix (r := rIxT K) ix_tup (pv 0) pe_int (fun _ _ => rfl)) pa_nil)) (pa_cons pe_dnewN pa_nil)) (by rfl))
      (pss_cons (ps_for PassesOwn.never rfl (pi_list (pe_call C_subsets.ok (hr.mono (by first | decide | omega)) (by rfl) C_subsets.gl C_subsets.kp C_subsets.bi .nil pass0 (pa_cons (pe_callB (r := rLenD K) call_len_seq (by rfl) T.n_len PySem.boot_len (pa_cons (pv 0) pa_nil)) (pa_cons (pv 2) pa_nil)))) (pg_name (i := 1) sc_facets_of.nd rfl (Or.inl rfl)) (pss_cons (ps_set (i := 4) sc_facets_of.nd rfl (Or.inr rfl) (pe_call C_normal_to.ok (hr.mono (by first | decide | omega)) (by rfl) C_normal_to.gl C_normal_to.kp C_normal_to.bi .nil pass0 (pa_cons (pe_call C_ways_from.ok (hr.mono (by first | decide | omega)) (by rfl) C_ways_from.gl C_ways_from.kp C_ways_from.bi .nil pass0 (pa_cons (pv 0) (pa_cons (pv 1) pa_nil))) (pa_cons (pv 2) pa_nil))))
      (pss_one (ps_if (pt_cmpR (r := rNeD K) (op_neD hr.units) (pe_lc (own := [("x", 7)]) (g := (gName 7)) (tt := _) rfl sc_facets_of.nd (pi_tup (pv 4)) (blkOk_by (N := nm_facets_of) (sc := (defScope st_facets_of)) (by decide +kernel)) (fun _ _ _ _ _ => (pg_name (i := 7) sc_facets_of.nd rfl (Or.inl rfl))) (fun _ _ _ _ _ => (pts_one (pt_cmpR (r := rNeD K) (op_neD hr.units) (pv 7) pe_int (nomark _)))) (fun _ _ _ _ _ => (pv 7))) (pe_lst pa_nil) (nomark _)) (pss_cons (ps_set (i := 4) sc_facets_of.nd rfl (Or.inr rfl) (pe_call C_primitive.ok (hr.mono (by first | decide | omega)) (by rfl) C_primitive.gl C_primitive.kp C_primitive.bi .nil pass0 (pa_cons (pv 4) pa_nil)))
      (pss_cons (ps_set (i := 5) sc_facets_of.nd rfl (Or.inr rfl) (pe_call C_dot.ok (hr.mono (by first | decide | omega)) (by rfl) C_dot.gl C_dot.kp C_dot.bi .nil pass0 (pa_cons (pv 4) (pa_cons (pe_ix (r := rIxT K) ix_tup (pv 0) (pe_ix (r := rIxT K) ix_tup (pv 1) pe_int (fun _ _ => rfl)) (fun _ _ => rfl)) pa_nil))))
      (pss_cons (ps_setLc (i := 6) (own := [("p", 8)]) (g := (gName 8)) (tt := tYes) rfl sc_facets_of.nd rfl rfl (sw_true rfl rfl rfl (by decide +kernel)) (pi_tup (pv 0)) (blkOk_by (N := nm_facets_of) (sc := (defScope st_facets_of)) (by decide +kernel)) (fun _ _ _ _ _ => (pg_name (i := 8) sc_facets_of.nd rfl (Or.inl rfl))) (fun _ _ _ _ _ => pts_nil) (fun _ _ _ _ _ => (pe_op op_sub (pe_call C_dot.ok (hr.mono (by first | decide | omega)) (by rfl) C_dot.gl C_dot.kp C_dot.bi .nil pass0 (pa_cons (pv 4) (pa_cons (pv 8) pa_nil))) (pv 5))))
      (pss_cons (ps_if (pt_cmpR op_le (pe_callB (r := rMax K) (cr_max rfl) (by rfl) T.n_max (by decide +kernel) (pa_cons (pv 6) pa_nil)) pe_int (nomark _)) (pss_one (ps_asg pe_bl (pg_sub (pv 3) (pe_tup (pa_cons (pv 4) (pa_cons (pv 5) pa_nil))) (set_nd (Room.u65 hr))))) pss_nil)
      (pss_one (ps_if (pt_cmpR op_ge (pe_callB (r := rMin K) (cr_min rfl) (by rfl) T.n_min (by decide +kernel) (pa_cons (pv 6) pa_nil)) pe_int (nomark _)) (pss_one (ps_asg pe_bl (pg_sub (pv 3) (pe_tup (pa_cons (pe_call C_scaled.ok (hr.mono (by first | decide | omega)) (by rfl) C_scaled.gl C_scaled.kp C_scaled.bi .nil pass0 (pa_cons (pe_un un_neg pe_int) (pa_cons (pv 4) pa_nil))) (pa_cons (pe_un un_neg (pv 5)) pa_nil))) (set_nd (Room.u65 hr))))) pss_nil)))))) pss_nil))))
      (pss_one (ps_ret (pe_sortedKeys T.n_sorted rfl (Room.u65 hr) (pv 3)))))), ?_⟩
  refine run_spD h ?_
  rintro ds r ⟨d, S, hS, rfl, rfl⟩ b D hD
  have n2 := hS.n2
  have n12 := hS.n12
  have p0 : (pt S 0).length = d := hS.len _ (pt_mem (by omega))
  have hd := hS.d1
  have hd3 := hS.d3
  refine gs_parN (d := .int d) (de_is (de_cb (da_cons (de_ixT (de_var rfl) de_int (at_pt0 (k := 0) rfl (by omega))) da_nil) (dc_len (.t _))) (by rw [List.length_map, p0])) fun fa na => ?_
  refine gs_forN (xs := lots S.length d) (enc := lD) (fun pre => [.dat (tT S), .any, .dat (.int d), .own fa (dctP P w fa (facs d S pre)), .any, .any, .any, .any, .any]) (fun _ => True)
    (di_list (de_call (da_cons (de_cb (da_cons (de_var rfl) da_nil) (dc_len (.t _))) (da_cons (de_var rfl) da_nil)) ⟨S.length, d, by rw [List.length_map], by omega, by omega, rfl⟩)) (LeE.refl _) trivial (fun pre l post c e _ h1 h2 => ?_) fun _ => ?_
  · have hl : l ∈ lots S.length d := by rw [e]; simp
    have lk := lots_lt hl
    have ll := (mem_lots.mp hl).2
    have ln : l ≠ [] := by intro z; rw [z] at ll; simp at ll; omega
    have hsh := fl_rows hd hd3 (ws := waysM S l) (by rw [ways_len, ll]) fun r hr => (ways_row hS lk hr).1
    have hn := normal_small hsh fun r hr => (ways_row hS lk hr).2
    have lpre : (facs d S pre).length ≤ 8192 := by
      have h1 := facs_len (d := d) (S := S) pre
      have h2 := congrArg List.length e
      have h3 := lots_len (n := S.length) (s := d) (by omega)
      rw [List.length_append, List.length_cons] at h2
      omega
    have nx : facs d S (pre ++ [l]) = facStep d S (facs d S pre) l := facs_snoc pre l
    rw [nx]
    unfold facStep
    generalize hv : normalM d (waysM S l) = v at hn ⊢
    refine gs_asg (d := tI v) (de_call (da_cons (de_call (r := lT (waysM S l)) (da_cons (de_var rfl) (da_cons (de_var rfl) da_nil)) ⟨S, l, rfl, ln, by omega, lk, fun p hp => by rw [hS.len p hp]; omega, rfl⟩) (da_cons (de_var rfl) da_nil)) ⟨d, waysM S l, rfl, hsh, ways_sm hS lk, by rw [hv]⟩) ?_
    refine go_when (c := !decide (v.filter (fun x => !PyData.eqv (.int x) (.int 0)) = [])) (dt_is (dt_test (de_ne (de_lc (xs := v) (enc := .int) (p := fun x => !PyData.eqv (.int x) (.int 0)) (f := .int) (js := [7]) (di_tup (de_var rfl)) (by omega) (by decide) (fun _ _ => dg_name)
      (fun x hx => dt_test (de_ne (de_var rfl) de_int rfl rfl)) fun x hx _ => de_var rfl) (de_lst da_nil (by decide)) (shaped_lI _) shaped_nil)) ?_) (fun hz => ?_) fun hz => ?_
    · rw [eqv_nil]
      cases v.filter (fun x => !PyData.eqv (.int x) (.int 0)) <;> simp
    · have hz : ¬ (v.filter (fun x => !PyData.eqv (.int x) (.int 0)) = []) := by
        intro q
        rw [decide_eq_true q] at hz
        cases hz
      rw [if_neg hz]
      have pl : (primM v).length = d := by rw [primM_len, hn.1]
      have ps := primM_small v hn.2
      have psm : Sm (primM v) := fun x hx => by
        have := ps x hx
        omega
      refine gs_asg (d := tI (primM v)) (de_call (da_cons (de_var rfl) da_nil) ⟨v, rfl, by omega, Nat.lt_trans (gcdL_lt (by decide) v hn.2) (by decide), rfl⟩) ?_
      generalize primM v = a at pl ps psm ⊢
      refine gs_asg (d := .int (dotM a (pt S (l.headD 0)))) (de_call (da_cons (de_var rfl) (da_cons (de_ixT (de_var rfl) (de_ixT (de_var rfl) de_int (head_at ln)) (at_pt (lk _ (head_mem ln)))) da_nil)) ⟨a, pt S (l.headD 0), rfl, psm, by omega, rfl⟩) ?_
      generalize dotM a (pt S (l.headD 0)) = bb
      refine gs_asg (d := .list ((sidesM S a bb).map .int)) (de_is (de_map (xs := S) (enc := tI) (f := fun p => .int (dotM a p - bb)) (js := [8]) (di_tup (de_var rfl)) (by omega) (by decide) (fun _ _ => dg_name)
        fun p hp => de_sub (de_call (da_cons (de_var rfl) (da_cons (de_var rfl) da_nil)) ⟨a, p, rfl, psm, by omega, rfl⟩) (de_var rfl)) (by rw [List.map_map]; rfl)) ?_
      obtain ⟨mx, x1, x2⟩ := ex_max (sides_ne hS a bb)
      obtain ⟨mn, y1, y2⟩ := ex_min (sides_ne hS a bb)
      have step2 : ∀ q : List FP, q.length ≤ 8193 → ∀ r, r = (if sideGe S a bb then putP q (a.map (-1 * ·), -bb) else q) →
          Go c [.dat (tT S), .dat (lD l), .dat (.int d), .own fa (dctP P w fa q), .dat (tI a), .dat (.int bb), .dat (.list ((sidesM S a bb).map .int)), .any, .any] (tIfS (tTest (tOp (rI0 fun i j => .bl (decide (j ≤ i))) (tCB (rMin K) (tCons (tVar 6) tNil)) (tC (.int 0)))) 
            (tAsg (tC (.bl true)) (gSub (tVar 3) (tTup (tCons (tCall (spD gScaled) [] E0 (tCons (tUn (rU fun i => .int (-i)) (tC (.int 1))) (tCons (tVar 4) tNil))) (tCons (tUn (rU fun i => .int (-i)) (tVar 5)) tNil))) (rSetN P w))) tNext
            { nx := fun σ H => True ∧ SS c [.dat (tT S), .any, .dat (.int d), .own fa (dctP P w fa r), .any, .any, .any, .any, .any] σ H, ct := fun σ H => True ∧ SS c [.dat (tT S), .any, .dat (.int d), .own fa (dctP P w fa r), .any, .any, .any, .any, .any] σ H, bk := fun σ H => True, rt := D.rt }) := by
        intro q hq r hr
        refine go_when (c := sideGe S a bb) (dt_is (dt_test (de_cmp (p := fun i j => decide (j ≤ i)) (de_cb (da_cons (de_var rfl) da_nil) (dc_min y1 y2)) de_int)) (sideGe_min y1 y2)) (fun hg => ?_) fun hg => ?_
        · rw [if_pos hg] at hr
          refine go_dset (x := a.map (-1 * ·)) (y := -bb) rfl (de_call (da_cons (de_neg de_int) (da_cons (de_var rfl) da_nil)) ⟨-1, a, rfl, by decide, by omega, rfl⟩) (de_neg (de_var rfl)) (by omega) (go_turn trivial ?_)
          rw [hr]
          exact .eq (.any (.eq (.eq (.any (.any (.any (.any (.any .nil))))))))
        · rw [hg, if_neg (by decide)] at hr
          refine go_turn trivial ?_
          rw [hr]
          exact .eq (.any (.eq (.eq (.any (.any (.any (.any (.any .nil))))))))
      refine gs_when (c := sideLe S a bb) (dt_is (dt_test (de_cmp (p := fun i j => decide (i ≤ j)) (de_cb (da_cons (de_var rfl) da_nil) (dc_max x1 x2)) de_int)) (sideLe_max x1 x2)) (fun hg => ?_) fun hg => ?_
      · refine go_dset (x := a) (y := bb) rfl (de_var rfl) (de_var rfl) (by omega) ?_
        refine step2 (putP (facs d S pre) (a, bb)) (Nat.le_trans (putP_len _ _) (by omega)) _ ?_
        unfold facPut
        rw [if_pos hg]
      · refine step2 (facs d S pre) (by omega) _ ?_
        unfold facPut
        simp only [hg, Bool.false_eq_true, if_false]
    · have hz : v.filter (fun x => !PyData.eqv (.int x) (.int 0)) = [] := by
        by_cases q : v.filter (fun x => !PyData.eqv (.int x) (.int 0)) = []
        · exact q
        · rw [decide_eq_false q] at hz
          cases hz
      rw [if_pos hz]
      exact go_turn trivial (.eq (.any (.eq (.eq (.any (.any (.any (.any (.any .nil)))))))))
  · refine go_ret (d := .list ((facetsM d S).map prD)) (de_sortKeys (j := 3) ?_ rfl (facs_nd _)) hD.rt
    have h1 := facs_len (d := d) (S := S) (lots S.length d)
    have h3 := lots_len (n := S.length) (s := d) (by omega)
    omega

abbrev nm_facets : List Str := ["shape"]
abbrev st_facets : Stmt := topS 23
theorem sc_facets : FnScope nm_facets ["shape"] (defScope st_facets) := ⟨rfl, rfl, rfl, by decide +kernel, rfl, by decide +kernel, by decide +kernel⟩
def gFacets (ds : List PyData) (r : PyData) : Prop := ∃ d S, Shp d S ∧ Full d S ∧ ds = [tT S] ∧ r = .tuple ((facetsM d S).map prD)
theorem ok_facets (T : Txt mg) (C_need_shape : ∃ f fd, CalAt P w K mg base "need_shape" 4 f fd ["shape"] (spD gShape)) (C_facets_of : ∃ f fd, CalAt P w K mg base "facets_of" 4 f fd ["points"] (spD gFacs))
    {f : Addr} {fd : FuncData} (F : Stands K mg "facets" st_facets f fd) : CalAt P w K mg base "facets" 5 f fd ["shape"] (spD gFacets) := by
  obtain ⟨_, _, C_need_shape⟩ := C_need_shape
  obtain ⟨_, _, C_facets_of⟩ := C_facets_of
  refine ⟨F.fn.ok sc_facets (fun vs H Q E h => spD_len h (by rintro ds r ⟨d, S, _, _, rfl, _⟩; rfl)) (fun cdv A outer s H vs Q E hr h => ?_), F.gl, F.fn.kp, F.fn.binds fun _ _ _ _ _ _ us hl => match us, hl with | [_], _ => rfl⟩
  refine ⟨_, (pss_cons (ps_expr (pe_call C_need_shape.ok (hr.mono (by first | decide | omega)) (by rfl) C_need_shape.gl C_need_shape.kp C_need_shape.bi .nil pass0 (pa_cons (pv 0) pa_nil)))
      (pss_one (ps_ret (pe_callTy (r := rTupD K) call_tuple_of (by rfl) T.n_tuple (by decide +kernel) (pa_cons (pe_call C_facets_of.ok (hr.mono (by first | decide | omega)) (by rfl) C_facets_of.gl C_facets_of.kp C_facets_of.bi .nil pass0 (pa_cons (pv 0) pa_nil)) pa_nil))))), ?_⟩
  refine run_spD h ?_
  rintro ds r ⟨d, S, hS, hF, rfl, rfl⟩ b D hD
  refine gs_drop (d := .none) (de_call (da_cons (de_var rfl) da_nil) ⟨d, S, hS, hF, rfl, rfl⟩) ?_
  exact go_ret (de_cb (da_cons (de_call (da_cons (de_var rfl) da_nil) ⟨d, S, hS, rfl, rfl⟩) da_nil) (dc_tuple (.l _))) hD.rt
end LW

namespace LW
open PySem PySem.Spec PyProof.Rows L2
open Evl (Ex)
variable {P : Program} {w : World} {K : PySem.W.Frag} {mg : Str → Option Value} {base : Heap}

abbrev nm__law_gcd : List Str := ["_law_one", "_law_other"]
abbrev st__law_gcd : Stmt := topS 33
theorem sc__law_gcd : FnScope nm__law_gcd ["_law_one", "_law_other"] (defScope st__law_gcd) := ⟨rfl, rfl, rfl, by decide +kernel, rfl, by decide +kernel, by decide +kernel⟩
theorem ok__law_gcd (T : Txt mg) {f : Addr} {fd : FuncData} (F : Stands K mg "_law_gcd" st__law_gcd f fd) : CalAt P w K mg base "_law_gcd" 1 f fd ["_law_one", "_law_other"] (spD gGcd) := by
  refine ⟨F.fn.ok sc__law_gcd (fun vs H Q E h => spD_len h (by rintro ds r ⟨a, b, rfl, _⟩; rfl)) (fun cdv A outer s H vs Q E hr h => ?_), F.gl, F.fn.kp, F.fn.binds fun _ _ _ _ _ _ us hl => match us, hl with | [_, _], _ => rfl⟩
  refine ⟨_, (pss_cons (ps_par (i := 0) (j := 1) (by rfl) sc__law_gcd.nd rfl rfl (by decide) rfl rfl (pa_cons (pe_callB call_abs (by rfl) T.n_abs (by decide +kernel) (pa_cons (pv 0) pa_nil)) (pa_cons (pe_callB call_abs (by rfl) T.n_abs (by decide +kernel) (pa_cons (pv 1) pa_nil)) pa_nil)) (by rfl))
      (pss_cons (ps_while PassesOwn.never (pt_cmpR (r := rNeD K) (op_neD hr.units) (pv 1) pe_int (nomark _)) (pss_one (ps_par (i := 0) (j := 1) (by rfl) sc__law_gcd.nd rfl rfl (by decide) rfl rfl (pa_cons (pv 1) (pa_cons (pe_op op_mod (pe_callTy call_int1 (by rfl) T.n_int (by decide +kernel) (pa_cons (pv 0) pa_nil)) (pv 1)) pa_nil)) (by rfl))))
      (pss_one (ps_ret (pv 0))))), ?_⟩
  refine run_spD h ?_
  rintro ds r ⟨x, y, rfl, rfl⟩ b D hD
  refine gs_par (da_cons (de_cb (da_cons (de_var rfl) da_nil) dc_abs) (da_cons (de_cb (da_cons (de_var rfl) da_nil) dc_abs) da_nil)) ?_
  refine gs_while (S := { p : Nat × Nat // Nat.gcd p.1 p.2 = Int.gcd x y }) (fun s => [.dat (.int s.1.1), .dat (.int s.1.2)]) (fun s => s.1.2) ⟨(x.natAbs, y.natAbs), rfl⟩ (LeE.refl _) ?_
  rintro ⟨⟨m, n⟩, hmn⟩
  refine ⟨!PyData.eqv (.int n) (.int 0), dt_test (de_ne (de_var rfl) de_int rfl rfl), fun hc => ?_, fun hc => ?_⟩
  · have hn : n ≠ 0 := by
      rintro rfl
      simp [PyData.eqv] at hc
    refine ⟨⟨(n, m % n), by rw [← hmn]; show Nat.gcd n (m % n) = Nat.gcd m n; rw [Nat.gcd_comm m n, Nat.gcd_rec n m, Nat.gcd_comm]⟩, Nat.mod_lt _ (Nat.pos_of_ne_zero hn), ?_⟩
    refine go_par (da_cons (de_var rfl) (da_cons (de_mod (de_cb (da_cons (de_var rfl) da_nil) dc_int) (de_var rfl) (by show (0 : Int) < (n : Int); omega)) da_nil)) ?_
    exact go_end (LeE.refl _)
  · have hn : n = 0 := by
      simp [PyData.eqv] at hc
      exact hc
    subst hn
    have e : m = Int.gcd x y := by rw [← hmn]; show m = Nat.gcd m 0; rw [Nat.gcd_zero_right]
    exact go_ret (de_is (de_var rfl) (show PyData.int (m : Int) = _ by rw [e])) hD.rt

abbrev nm__law_dot : List Str := ["_law_one", "_law_other", "_law_k"]
abbrev st__law_dot : Stmt := topS 34
theorem sc__law_dot : FnScope nm__law_dot ["_law_one", "_law_other"] (defScope st__law_dot) := ⟨rfl, rfl, rfl, by decide +kernel, rfl, by decide +kernel, by decide +kernel⟩
theorem zip_range {g : Int → Int → Int} : ∀ {a b : List Int}, a.length = b.length → (List.range a.length).map (fun k => g (a.getD k 0) (b.getD k 0)) = List.zipWith g a b
  | [], [], _ => rfl
  | x :: a, y :: b, h => by
    have ih := zip_range (g := g) (a := a) (b := b) (by simpa using h)
    rw [List.length_cons, List.range_succ_eq_map, List.map_cons, List.map_map, List.zipWith_cons_cons, ← ih]
    rfl
theorem ok__law_dot (T : Txt mg) {f : Addr} {fd : FuncData} (F : Stands K mg "_law_dot" st__law_dot f fd) : CalAt P w K mg base "_law_dot" 1 f fd ["_law_one", "_law_other"] (spD fun ds r => ∃ a b : List Int, ds = [tI a, tI b] ∧ Sm a ∧ a.length ≤ 100 ∧ a.length = b.length ∧ r = .int (dotM a b)) := by
  refine ⟨F.fn.ok sc__law_dot (fun vs H Q E h => spD_len h (by rintro ds r ⟨a, b, rfl, _⟩; rfl)) (fun cdv A outer s H vs Q E hr h => ?_), F.gl, F.fn.kp, F.fn.binds fun _ _ _ _ _ _ us hl => match us, hl with | [_, _], _ => rfl⟩
  refine ⟨_, (pss_one (ps_ret (pe_callB (r := rSum K) (cr_sum rfl) (by rfl) T.n_sum (by decide +kernel) (pa_cons (pe_lc (own := [("_law_k", 2)]) (g := (gName 2)) (tt := tYes) rfl sc__law_dot.nd (pi_range1 (by rfl) T.n_range (pa_cons (pe_callB (r := rLenD K) call_len_seq (by rfl) T.n_len PySem.boot_len (pa_cons (pv 0) pa_nil)) pa_nil)) (blkOk_by (N := nm__law_dot) (sc := (defScope st__law_dot)) (by decide +kernel)) (fun _ _ _ _ _ => (pg_name (i := 2) sc__law_dot.nd rfl (Or.inl rfl))) (fun _ _ _ _ _ => pts_nil) (fun _ _ _ _ _ => (pe_op op_mul (pe_ix (r := rIxT K) ix_tup (pv 0) (pv 2) (fun _ _ => rfl)) (pe_ix (r := rIxT K) ix_tup (pv 1) (pv 2) (fun _ _ => rfl))))) pa_nil)))), ?_⟩
  refine run_spD h ?_
  rintro ds r ⟨x, y, rfl, sx, lx, exy, rfl⟩ b D hD
  refine go_ret ?_ hD.rt
  refine de_cb (da_cons (de_is (de_map (xs := List.range x.length) (enc := fun (k : Nat) => .int (k : Int)) (f := fun k => .int (x.getD k 0 * y.getD k 0)) (js := [2])
    (di_rng1 (n := (x.length : Int)) (da_cons (de_is (de_cb (da_cons (de_var rfl) da_nil) (dc_len (.t _))) (by rw [List.length_map])) da_nil) (by omega)) (by rw [List.length_range]; omega) (by decide)
    (fun p hp => dg_name) fun k hk => de_mul (de_ixT (de_var rfl) (de_var rfl) (at_int (List.mem_range.mp hk))) (de_ixT (de_var rfl) (de_var rfl) (at_int (by have := List.mem_range.mp hk; omega))) (.inl (sx.at (List.mem_range.mp hk)))) ?_) da_nil) dc_sum
  rw [← zip_range (g := (· * ·)) exy, List.map_map]
  rfl

abbrev nm__law_is_vector : List Str := ["_law_value", "_law_size", "_law_x"]
abbrev st__law_is_vector : Stmt := topS 32
theorem sc__law_is_vector : FnScope nm__law_is_vector ["_law_value", "_law_size"] (defScope st__law_is_vector) := ⟨rfl, rfl, rfl, by decide +kernel, rfl, by decide +kernel, by decide +kernel⟩
theorem ok__law_is_vector (T : Txt mg) {f : Addr} {fd : FuncData} (F : Stands K mg "_law_is_vector" st__law_is_vector f fd) : CalAt P w K mg base "_law_is_vector" 1 f fd ["_law_value", "_law_size"] (spD fun ds r => ∃ (a : List Int) (n : Int), ds = [tI a, .int n] ∧ a.length ≤ 100 ∧ (a.length : Int) = n ∧ r = .bool true) := by
  refine ⟨F.fn.ok sc__law_is_vector (fun vs H Q E h => spD_len h (by rintro ds r ⟨a, n, rfl, _⟩; rfl)) (fun cdv A outer s H vs Q E hr h => ?_), F.gl, F.fn.kp, F.fn.binds fun _ _ _ _ _ _ us hl => match us, hl with | [_, _], _ => rfl⟩
  refine ⟨_, (pss_cons (ps_if (PW.pt (pw_or (pt_not (pt_val (pe_callB (r := rIsi K) call_isi (by rfl) T.n_isinstance (by decide +kernel) (pa_cons (pv 0) (pa_cons (pe_bltn (v := .ty "tuple") (u := .type "tuple") (by rfl) T.n_tuple (by decide +kernel) rfl) pa_nil))))) (pw_or1 (pt_cmpR (r := rNeD K) (op_neD hr.units) (pe_callB (r := rLenD K) call_len_seq (by rfl) T.n_len PySem.boot_len (pa_cons (pv 0) pa_nil)) (pv 1) (nomark _))))) (pss_one (ps_ret pe_bl)) pss_nil)
      (pss_one (ps_ret (pe_cmpR (r := rEqD K) (op_eqD hr.units) (pe_lc (own := [("_law_x", 2)]) (g := (gName 2)) (tt := _) rfl sc__law_is_vector.nd (pi_tup (pv 0)) (blkOk_by (N := nm__law_is_vector) (sc := (defScope st__law_is_vector)) (by decide +kernel)) (fun _ _ _ _ _ => (pg_name (i := 2) sc__law_is_vector.nd rfl (Or.inl rfl))) (fun _ _ _ _ _ => (pts_one (PW.pt (pw_or (pt_not (pt_val (pe_callB (r := rIsi K) call_isi (by rfl) T.n_isinstance (by decide +kernel) (pa_cons (pv 2) (pa_cons (pe_bltn (v := .ty "int") (u := .type "int") (by rfl) T.n_int (by decide +kernel) rfl) pa_nil))))) (pw_or1 (pt_val (pe_callB (r := rIsi K) call_isi (by rfl) T.n_isinstance (by decide +kernel) (pa_cons (pv 2) (pa_cons (pe_bltn (v := .ty "bool") (u := .type "bool") (by rfl) T.n_bool (by decide +kernel) rfl) pa_nil))))))))) (fun _ _ _ _ _ => (pv 2))) (pe_lst pa_nil) (nomark _))))), ?_⟩
  refine run_spD h ?_
  rintro ds r ⟨x, n, rfl, lx, rfl, rfl⟩ b D hD
  refine gs_when (c := false) (dt_is (dt_or (dt_not (dt_val (de_isi (de_var rfl) kit_tuple_tuple))) fun _ => dt_test (de_ne (de_cb (da_cons (de_var rfl) da_nil) (dc_len (.t _))) (de_var rfl) rfl rfl)) ?_) (fun h => by cases h) fun _ => ?_
  · simp [PyData.eqv]
  · refine go_ret (d := .bool true) (de_is (de_eq (de_lc (xs := x) (enc := .int) (p := fun _ => false) (f := .int) (js := [2]) (di_tup (de_var rfl)) (by omega) (by decide) (fun _ _ => dg_name)
      (fun v hv => dt_is (dt_or (dt_not (dt_val (de_isi (de_var rfl) kit_int_int))) fun _ => dt_val (de_isi (de_var rfl) kit_int_bool)) rfl) fun v hv h => by cases h) (de_lst da_nil (by decide)) ?_ rfl) ?_) hD.rt
    · rw [List.filter_eq_nil_iff.mpr (by simp)]; rfl
    · rw [List.filter_eq_nil_iff.mpr (by simp)]; rfl

/-! ### the law's determinant -/
abbrev lL (P : List (List Int)) : PyData := .list (P.map lI)
def restM (k : Nat) (rows : List (List Int)) : List (List Int) := ((List.range rows.length).filter fun j => !decide (j = k)).map fun j => (pt rows j).drop 1
def sgn : Nat → Int
  | 0 => 1
  | k + 1 => 0 - sgn k
theorem sgn_small (k : Nat) : sgn k = 1 ∨ sgn k = -1 := by
  induction k with
  | zero => exact .inl rfl
  | succ k ih =>
    rw [sgn]
    omega
def sumT (g : Nat → Int) : Nat → Int
  | 0 => 0
  | k + 1 => sumT g k + g k
def ldet : Nat → List (List Int) → Int
  | 0, _ => 1
  | n + 1, rows => sumT (fun k => sgn k * (pt rows k).getD 0 0 * ldet n (restM k rows)) rows.length
theorem rest_len {k : Nat} {rows : List (List Int)} (h3 : rows.length ≤ 3) (hk : k < rows.length) : (restM k rows).length = rows.length - 1 := by
  unfold restM
  rw [List.length_map]
  revert h3 hk
  generalize rows.length = n
  intro h3 hk
  match n, k, h3, hk with
  | 1, 0, _, _ => rfl
  | 2, 0, _, _ => rfl
  | 2, 1, _, _ => rfl
  | 3, 0, _, _ => rfl
  | 3, 1, _, _ => rfl
  | 3, 2, _, _ => rfl
theorem rest_row {k : Nat} {rows : List (List Int)} {r : List Int} (h : r ∈ restM k rows) : ∃ s ∈ rows, r = s.drop 1 := by
  obtain ⟨j, hj, rfl⟩ := List.mem_map.mp h
  exact ⟨pt rows j, pt_mem (List.mem_range.mp (List.mem_filter.mp hj).1), rfl⟩
def gLdet (n : Nat) (ds : List PyData) (r : PyData) : Prop := ∃ rows : List (List Int), ds = [lL rows] ∧ rows.length = n ∧ n ≤ 3 ∧ (∀ l ∈ rows, l.length = n ∧ Sm l) ∧ r = .int (ldet n rows)
theorem at_ptL {S : List (List Int)} {k : Nat} (h : k < S.length) : atI (S.map lI) (k : Int) = some (lI (pt S k)) := by
  refine atI_nat ?_
  rw [List.getElem?_map, pt, List.getD_eq_getElem?_getD, List.getElem?_eq_getElem h]
  rfl

abbrev nm__law_determinant : List Str := ["_law_rows", "_law_k", "_law_total", "_law_sign", "_law_rest", "_law_j"]
abbrev st__law_determinant : Stmt := topS 28
theorem sc__law_determinant : FnScope nm__law_determinant ["_law_rows"] (defScope st__law_determinant) := ⟨rfl, rfl, rfl, by decide +kernel, rfl, by decide +kernel, by decide +kernel⟩
theorem step_ldet (T : Txt mg) {f : Addr} {fd : FuncData} (F : Stands K mg "_law_determinant" st__law_determinant f fd) (n k0 : Nat) (g0 : List PyData → PyData → Prop) (hg : ∀ m, n = m + 1 → ∀ ds r, gLdet m ds r → g0 ds r)
    (C__law_determinant : CalAt P w K mg base "_law_determinant" k0 f fd ["_law_rows"] (spD g0)) : CalAt P w K mg base "_law_determinant" (k0 + 1) f fd ["_law_rows"] (spD (gLdet n)) := by
  refine ⟨F.fn.ok sc__law_determinant (fun vs H Q E h => spD_len h (by rintro ds r ⟨a, rfl, _⟩; rfl)) (fun cdv A outer s H vs Q E hr h => ?_), F.gl, F.fn.kp, F.fn.binds fun _ _ _ _ _ _ us hl => match us, hl with | [_], _ => rfl⟩
  refine ⟨_, (pss_cons (ps_if (pt_cmpR (r := rEqD K) (op_eqD hr.units) (pe_callB (r := rLenD K) call_len_seq (by rfl) T.n_len PySem.boot_len (pa_cons (pv 0) pa_nil)) pe_int (nomark _)) (pss_one (ps_ret pe_int)) pss_nil)
      (pss_cons (ps_asg (pe_tup (pa_cons pe_int (pa_cons pe_int pa_nil))) (pg_tup rfl (pgs_cons (pg_name (i := 2) sc__law_determinant.nd rfl (Or.inl rfl)) (pgs_cons (pg_name (i := 3) sc__law_determinant.nd rfl (Or.inl rfl)) pgs_nil))))
      (pss_cons (ps_for PassesOwn.never rfl (pi_range1 (by rfl) T.n_range (pa_cons (pe_callB (r := rLenD K) call_len_seq (by rfl) T.n_len PySem.boot_len (pa_cons (pv 0) pa_nil)) pa_nil)) (pg_name (i := 1) sc__law_determinant.nd rfl (Or.inr rfl)) (pss_cons (ps_if (pt_cmpR (r := rNeD K) (op_neD hr.units) (pe_ix (r := rIxL K) ix_list (pe_ix (r := rIxL K) ix_list (pv 0) (pv 1) (fun _ _ => rfl)) pe_int (fun _ _ => rfl)) pe_int (nomark _)) (pss_cons (ps_setLc (i := 4) (own := [("_law_j", 5)]) (g := (gName 5)) (tt := _) rfl sc__law_determinant.nd rfl rfl (sw_true rfl rfl rfl (by decide +kernel)) (pi_range1 (by rfl) T.n_range (pa_cons (pe_callB (r := rLenD K) call_len_seq (by rfl) T.n_len PySem.boot_len (pa_cons (pv 0) pa_nil)) pa_nil)) (blkOk_by (N := nm__law_determinant) (sc := (defScope st__law_determinant)) (by decide +kernel)) (fun _ _ _ _ _ => (pg_name (i := 5) sc__law_determinant.nd rfl (Or.inl rfl))) (fun _ _ _ _ _ => (pts_one (pt_cmpR (r := rNeD K) (op_neD hr.units) (pv 5) (pv 1) (nomark _)))) (fun _ _ _ _ _ => (pe_slice (r := rSlL K) sl_list (pe_ix (r := rIxL K) ix_list (pv 0) (pv 5) (fun _ _ => rfl)) (po_some pe_int) po_none)))
      (pss_one (ps_set (i := 2) sc__law_determinant.nd rfl (Or.inl rfl) (pe_op op_add (pv 2) (pe_op op_mul (pe_op op_mul (pv 3) (pe_ix (r := rIxL K) ix_list (pe_ix (r := rIxL K) ix_list (pv 0) (pv 1) (fun _ _ => rfl)) pe_int (fun _ _ => rfl))) (pe_call C__law_determinant.ok (hr.mono (by first | decide | omega)) (by rfl) C__law_determinant.gl C__law_determinant.kp C__law_determinant.bi .nil pass0 (pa_cons (pv 4) pa_nil))))))) pss_nil)
      (pss_one (ps_set (i := 3) sc__law_determinant.nd rfl (Or.inl rfl) (pe_op op_sub pe_int (pv 3))))))
      (pss_one (ps_ret (pv 2)))))), ?_⟩
  refine run_spD h ?_
  rintro ds r ⟨rows, rfl, hn, h3, hr, rfl⟩ b D hD
  refine gs_when (c := decide (rows.length = 0)) (dt_is (dt_test (de_eq (de_cb (da_cons (de_var rfl) da_nil) (dc_len (.l _))) (de_int (i := 0)) rfl rfl)) ?_) (fun hz => ?_) fun hz => ?_
  · rw [List.length_map]
    exact eqv_nat _ 0
  · have hz := of_decide_eq_true hz
    have : n = 0 := by omega
    subst this
    exact go_ret de_int hD.rt
  · have hz := of_decide_eq_false hz
    obtain ⟨m, rfl⟩ : ∃ m, n = m + 1 := ⟨n - 1, by omega⟩
    refine gs_unp (x := .int 0) (y := .int 1) (de_tup (da_cons de_int (da_cons de_int da_nil)) (by show 2 ≤ _; decide)) ?_
    refine gs_forN (xs := List.range rows.length) (enc := fun (k : Nat) => .int (k : Int)) (fun pre => [.dat (lL rows), .any, .dat (.int (sumT (fun k => sgn k * (pt rows k).getD 0 0 * ldet m (restM k rows)) pre.length)), .dat (.int (sgn pre.length)), .any, .any]) (fun _ => True)
      (di_rng1 (n := (rows.length : Int)) (da_cons (de_is (de_cb (da_cons (de_var rfl) da_nil) (dc_len (.l _))) (by rw [List.length_map])) da_nil) (by omega)) (LeE.refl _) trivial (fun pre k post c e _ h1 h2 => ?_) fun _ => ?_
    · obtain ⟨ek, hk⟩ := range_at e
      have hrow := hr _ (pt_mem hk)
      have nx : sumT (fun k => sgn k * (pt rows k).getD 0 0 * ldet m (restM k rows)) (pre ++ [k]).length = sumT (fun k => sgn k * (pt rows k).getD 0 0 * ldet m (restM k rows)) pre.length + sgn k * (pt rows k).getD 0 0 * ldet m (restM k rows) := by
        rw [List.length_append, List.length_singleton, sumT, ← ek]
      have ns : sgn (pre ++ [k]).length = 0 - sgn pre.length := by rw [List.length_append, List.length_singleton, sgn]
      have entry : ∀ {x3 x4 x5 : Slot} {x2 : Slot}, DE (tOp (rIxL K) (tOp (rIxL K) (tVar 0) (tVar 1)) (tC (.int 0))) [.dat (lL rows), .dat (.int k), x2, x3, x4, x5] (.int ((pt rows k).getD 0 0)) := fun {x3 x4 x5 x2} =>
        de_ixL (ds := (pt rows k).map .int) (de_ixL (de_var rfl) (de_var rfl) (at_ptL hk)) de_int (at_int (k := 0) (by rw [hrow.1]; omega))
      have tail : ∀ (z : Int) (x4 x5 : Slot), z = sumT (fun k => sgn k * (pt rows k).getD 0 0 * ldet m (restM k rows)) (pre ++ [k]).length →
          ∀ D' : Ends, D'.nx = (fun σ H => True ∧ SS c [.dat (lL rows), .any, .dat (.int (sumT (fun k => sgn k * (pt rows k).getD 0 0 * ldet m (restM k rows)) (pre ++ [k]).length)), .dat (.int (sgn (pre ++ [k]).length)), .any, .any] σ H) →
          Go c [.dat (lL rows), .dat (.int k), .dat (.int z), .dat (.int (sgn pre.length)), x4, x5] (tAsg (tOp (rI0 fun i j => .int (i - j)) (tC (.int 0)) (tVar 3)) (gName 3) D') := fun z x4 x5 ez D' eD => by
        refine go_asg (d := .int (0 - sgn pre.length)) (de_sub de_int (de_var rfl)) ?_
        rw [eD, ← ez, ns]
        exact go_turn trivial (.eq (.any (.eq (.eq (.any (.any .nil))))))
      refine gs_when (dt_test (de_ne entry de_int rfl rfl)) (fun hz => ?_) fun hz => ?_
      · refine gs_asg (d := lL (restM k rows)) (de_is (de_lc (xs := List.range rows.length) (enc := fun (j : Nat) => .int (j : Int)) (p := fun j => !decide (j = k)) (f := fun j => lI ((pt rows j).drop 1)) (js := [5])
          (di_rng1 (n := (rows.length : Int)) (da_cons (de_is (de_cb (da_cons (de_var rfl) da_nil) (dc_len (.l _))) (by rw [List.length_map])) da_nil) (by omega)) (by rw [List.length_range]; omega) (by decide) (fun _ _ => dg_name)
          (fun j hj => dt_is (dt_test (de_ne (de_var rfl) (de_var rfl) rfl rfl)) (by rw [eqv_nat])) fun j hj _ => de_is (de_slL (ds := (pt rows j).map .int) (de_ixL (de_var rfl) (de_var rfl) (at_ptL (List.mem_range.mp hj))) (do_some (de_int (i := ((1 : Nat) : Int)))) do_none) (by rw [cutD_from, ← List.map_drop])) ?_) ?_
        · unfold restM lL
          rw [List.map_map]
          rfl
        · refine go_asg (d := .int (sumT (fun k => sgn k * (pt rows k).getD 0 0 * ldet m (restM k rows)) (pre ++ [k]).length)) (de_is (de_add (de_var rfl) (de_mul (de_mul (de_var rfl) entry (.inl (by have := sgn_small pre.length; omega))) (de_call (da_cons (de_var rfl) da_nil) (hg m rfl _ _ ⟨restM k rows, rfl, ?_, by omega, fun l hl => ?_, rfl⟩)) (.inl ?_))) ?_) ?_
          · rw [rest_len (by omega) hk]
            omega
          · obtain ⟨s, hs, rfl⟩ := rest_row hl
            have := hr s hs
            refine ⟨by rw [List.length_drop, this.1]; omega, fun x hx => this.2 x (List.mem_of_mem_drop hx)⟩
          · have q := hrow.2.at (k := 0) (by rw [hrow.1]; omega)
            rcases sgn_small pre.length with z | z <;> rw [z] <;> omega
          · rw [nx, ek]
          · exact tail _ _ _ rfl _ rfl
      · have hz : (pt rows k).getD 0 0 = 0 := by simpa [PyData.eqv] using hz
        refine tail _ _ _ ?_ _ rfl
        rw [nx, hz]
        simp
    · rw [List.length_range]
      exact go_ret (d := .int (ldet (m + 1) rows)) (de_var rfl) hD.rt
theorem no_call {x : Str} {k : Nat} {f : Addr} {fd : FuncData} {ps : List Str} (hgl : mg x = some (.ref f)) (hk : PySem.W.keepIn K (.ref f) = true) (hb : Binds K fd ps []) : CalAt P w K mg base x k f fd ps (spD fun _ _ => False) := by
  refine ⟨⟨fun vs H Q E ⟨B, ds, r, _, _, h, _⟩ => h.elim, fun A outer s H args us vs Q E hr he hb hv ⟨B, ds, r, _, _, h, _⟩ => h.elim⟩, hgl, hk, hb⟩
theorem ok_ldet (T : Txt mg) {f : Addr} {fd : FuncData} (F : Stands K mg "_law_determinant" st__law_determinant f fd) : ∀ n, CalAt P w K mg base "_law_determinant" (n + 1) f fd ["_law_rows"] (spD (gLdet n))
  | 0 => step_ldet T F 0 0 (fun _ _ => False) (fun m e => by cases e) (no_call F.gl F.fn.kp (F.fn.binds fun _ _ _ _ _ _ us hl => match us, hl with | [_], _ => rfl))
  | n + 1 => step_ldet T F (n + 1) (n + 1) (gLdet n) (fun m e ds r h => by cases e; exact h) (ok_ldet T F n)
theorem ok__law_determinant (T : Txt mg) {f : Addr} {fd : FuncData} (F : Stands K mg "_law_determinant" st__law_determinant f fd) : CalAt P w K mg base "_law_determinant" 4 f fd ["_law_rows"] (spD fun ds r => ∃ n, gLdet n ds r) := by
  refine ⟨⟨fun vs H Q E h => spD_len h (by rintro ds r ⟨n, a, rfl, _⟩; rfl), fun A outer s H args us vs Q E hr he hb hv ⟨B, ds, r, e, d, ⟨n, h⟩, k⟩ => ?_⟩, F.gl, F.fn.kp, F.fn.binds fun _ _ _ _ _ _ us hl => match us, hl with | [_], _ => rfl⟩
  have h3 : n ≤ 3 := by
    obtain ⟨_, _, _, h3, _⟩ := h
    exact h3
  exact (ok_ldet T F n).ok.run A outer s H args us vs Q E (hr.mono (by omega)) he hb hv ⟨B, ds, r, e, d, h, k⟩
theorem ldet_det {d : Nat} {ws : List (List Int)} (h : (∃ a, ws = [[a]]) ∨ (∃ a b c d, ws = [[a, b], [c, d]]) ∨ ∃ a b c d e f g h i, ws = [[a, b, c], [d, e, f], [g, h, i]]) : ldet ws.length ws = det ws := by
  rcases h with ⟨a, rfl⟩ | ⟨a, b, c, d, rfl⟩ | ⟨a, b, c, d, e, f, g, h, i, rfl⟩
  · simp [ldet, sumT, sgn, det, pt]
  · simp [ldet, sumT, sgn, det, pt, restM, List.range_succ]
    grind
  · simp [ldet, sumT, sgn, det, pt, restM, List.range_succ]
    grind

/-! ### the law's differences -/
def scpE : Expr → Scope
  | .ListComp _ _ s _ => s
  | _ => defScope (topS 0)
def scpS : Stmt → Scope
  | .Return (some e) _ => scpE e
  | .Assign _ e _ => scpE e
  | _ => defScope (topS 0)
def subS : Stmt → Nat → Stmt
  | .For _ _ b _ _, i => b.getD i (.Pass ⟨0, 0, 0, 0⟩)
  | s, _ => s
abbrev nm__law_ways : List Str := ["_law_points", "_law_lot", "_law_first", "_law_k", "_law_at"]
abbrev st__law_ways : Stmt := topS 29
theorem sc__law_ways : FnScope nm__law_ways ["_law_points", "_law_lot"] (defScope st__law_ways) := ⟨rfl, rfl, rfl, by decide +kernel, rfl, by decide +kernel, by decide +kernel⟩
abbrev cmp__law_ways : Scope := scpS ((defBody st__law_ways).getD 1 (.Pass ⟨0, 0, 0, 0⟩))
abbrev nm__law_span : List Str := ["_law_points", "_law_lot"]
abbrev st__law_span : Stmt := topS 30
theorem sc__law_span : FnScope nm__law_span ["_law_points", "_law_lot"] (defScope st__law_span) := ⟨rfl, rfl, rfl, by decide +kernel, rfl, by decide +kernel, by decide +kernel⟩
/-- points of one dimension, none far -/
structure Pts (d : Nat) (S : List (List Int)) : Prop where
  d1 : 1 ≤ d
  d3 : d ≤ 3
  len : ∀ p ∈ S, p.length = d
  far : ∀ p ∈ S, ∀ x ∈ p, -(2 ^ 40) ≤ x ∧ x ≤ 2 ^ 40
theorem pts_row {d : Nat} {S : List (List Int)} (hS : Pts d S) {lot : List Nat} (hl : ∀ k ∈ lot, k < S.length) {r : List Int} (hr : r ∈ waysM S lot) : r.length = d ∧ Sm r := by
  obtain ⟨k, hk, rfl⟩ := List.mem_map.mp hr
  have h1 : k ∈ lot := List.mem_of_mem_drop hk
  have h0 : lot.headD 0 ∈ lot := by
    cases lot with
    | nil => simp at h1
    | cons l t => simp
  have m1 := pt_mem (hl _ h1)
  have m0 := pt_mem (hl _ h0)
  refine ⟨lessM_len (hS.len _ m1) (hS.len _ m0), fun x hx => ?_⟩
  obtain ⟨u, v, hu, hv, rfl⟩ := zipWith_mem hx
  have := hS.far _ m1 u hu
  have := hS.far _ m0 v hv
  omega
theorem Shp.pts {d : Nat} {S : List (List Int)} (h : Shp d S) : Pts d S := ⟨h.d1, h.d3, h.len, fun p hp x hx => by have := h.box p hp x hx; omega⟩
theorem ok__law_waysTT (T : Txt mg) {f : Addr} {fd : FuncData} (F : Stands K mg "_law_ways" st__law_ways f fd) : CalAt P w K mg base "_law_ways" 1 f fd ["_law_points", "_law_lot"] (spD fun ds r => ∃ (d : Nat) (S : List (List Int)) (lot : List Nat), ds = [tT S, tI (nD lot)] ∧ lot ≠ [] ∧ lot.length ≤ 100 ∧ (∀ k ∈ lot, k < S.length) ∧ (∀ p ∈ S, p.length = d) ∧ d ≤ 100 ∧ r = lL (waysM S lot)) := by
  refine ⟨F.fn.ok sc__law_ways (fun vs H Q E h => spD_len h (by rintro ds r ⟨d, S, lot, rfl, _⟩; rfl)) (fun cdv A outer s H vs Q E hr h => ?_), F.gl, F.fn.kp, F.fn.binds fun _ _ _ _ _ _ us hl => match us, hl with | [_, _], _ => rfl⟩
  refine ⟨_, (pss_cons (ps_set (i := 2) sc__law_ways.nd rfl (Or.inr rfl) (pe_ix (r := rIxT K) ix_tup (pv 0) (pe_ix (r := rIxT K) ix_tup (pv 1) pe_int (fun _ _ => rfl)) (fun _ _ => rfl)))
      (pss_one (ps_ret (pe_lc (own := [("_law_k", 3)]) (g := (gName 3)) (tt := tYes) rfl sc__law_ways.nd (pi_tup (pe_slice (r := rSlA K) sl_tupA (pv 1) (po_some pe_int) po_none)) (blkOk_by (N := nm__law_ways) (sc := (defScope st__law_ways)) (by decide +kernel)) (fun _ _ _ _ _ => (pg_name (i := 3) sc__law_ways.nd rfl (Or.inr rfl))) (fun _ _ _ _ _ => pts_nil) (fun _ _ _ _ _ => (pe_lc (own := [("_law_at", 4)]) (g := (gName 4)) (tt := tYes) rfl sc__law_ways.nd (pi_range1 (by rfl) T.n_range (pa_cons (pe_callB (r := rLenD K) call_len_seq (by rfl) T.n_len PySem.boot_len (pa_cons (pv 2) pa_nil)) pa_nil)) (blkOk_by (N := nm__law_ways) (sc := (relS cmp__law_ways (defScope st__law_ways))) (by decide +kernel)) (fun _ _ _ _ _ => (pg_name (i := 4) sc__law_ways.nd rfl (Or.inl rfl))) (fun _ _ _ _ _ => pts_nil) (fun _ _ _ _ _ => (pe_op op_sub (pe_ix (r := rIxT K) ix_tup (pe_ix (r := rIxT K) ix_tup (pv 0) (pv 3) (fun _ _ => rfl)) (pv 4) (fun _ _ => rfl)) (pe_ix (r := rIxT K) ix_tup (pv 2) (pv 4) (fun _ _ => rfl)))))))))), ?_⟩
  refine run_spD h ?_
  rintro ds r ⟨d, S, lot, rfl, h0, hl, hk, hp, hd, rfl⟩ b D hD
  cases lot with
  | nil => exact absurd rfl h0
  | cons l0 rest =>
    have hk0 : l0 < S.length := hk l0 (by simp)
    have p0 := hp _ (pt_mem hk0)
    refine gs_asg (d := tI (pt S l0)) (de_ixT (de_var rfl) (de_ixT (de_var rfl) de_int (atI_nat (j := 0) rfl)) (at_pt hk0)) ?_
    refine go_ret ?_ hD.rt
    refine de_is (de_map (xs := rest) (enc := fun (k : Nat) => .int (k : Int)) (f := fun k => lI (lessM (pt S k) (pt S l0))) (js := [3]) ?_ (by simp at hl; omega) (by decide) (fun _ _ => dg_name) fun k hm => ?_) ?_
    · have e : cutD ((nD (l0 :: rest)).map PyData.int) (some ((1 : Nat) : Int)) none = rest.map fun (k : Nat) => PyData.int (k : Int) := by
        rw [cutD_from]
        simp [nD]
      rw [← e]
      exact di_tup (de_slT (de_var rfl) (do_some de_int) do_none)
    · have hkk : k < S.length := hk k (by simp [hm])
      have pk := hp _ (pt_mem hkk)
      refine de_is (de_map (xs := List.range (pt S k).length) (enc := fun (j : Nat) => .int (j : Int)) (f := fun j => .int ((pt S k).getD j 0 - (pt S l0).getD j 0)) (js := [4])
        (di_rng1 (n := ((pt S k).length : Int)) (da_cons (de_is (de_cb (da_cons (de_var rfl) da_nil) (dc_len (.t _))) (by rw [List.length_map, p0, pk])) da_nil) (by omega)) (by rw [List.length_range]; omega) (by decide) (fun _ _ => dg_name)
        fun j hj => de_sub (de_ixT (ds := (pt S k).map .int) (de_ixT (de_var rfl) (de_var rfl) (at_pt hkk)) (de_var rfl) (at_int (List.mem_range.mp hj))) (de_ixT (ds := (pt S l0).map .int) (de_var rfl) (de_var rfl) (at_int (by have := List.mem_range.mp hj; omega)))) ?_
      unfold lessM lI
      rw [← zip_range (g := (· - ·)) (by omega), List.map_map]
      rfl
    · simp [waysM, lL, Function.comp_def]
theorem ok__law_spanTT (T : Txt mg) (C__law_waysTT : ∃ f fd, CalAt P w K mg base "_law_ways" 1 f fd ["_law_points", "_law_lot"] (spD fun ds r => ∃ (d : Nat) (S : List (List Int)) (lot : List Nat), ds = [tT S, tI (nD lot)] ∧ lot ≠ [] ∧ lot.length ≤ 100 ∧ (∀ k ∈ lot, k < S.length) ∧ (∀ p ∈ S, p.length = d) ∧ d ≤ 100 ∧ r = lL (waysM S lot)))
    (C__law_determinant : ∃ f fd, CalAt P w K mg base "_law_determinant" 4 f fd ["_law_rows"] (spD fun ds r => ∃ n, gLdet n ds r)) {f : Addr} {fd : FuncData} (F : Stands K mg "_law_span" st__law_span f fd) :
    CalAt P w K mg base "_law_span" 5 f fd ["_law_points", "_law_lot"] (spD fun ds r => ∃ (d : Nat) (S : List (List Int)) (lot : List Nat), ds = [tT S, tI (nD lot)] ∧ Pts d S ∧ lot.length = d + 1 ∧ (∀ k ∈ lot, k < S.length) ∧ r = .int (det (waysM S lot))) := by
  obtain ⟨_, _, C__law_waysTT⟩ := C__law_waysTT
  obtain ⟨_, _, C__law_determinant⟩ := C__law_determinant
  refine ⟨F.fn.ok sc__law_span (fun vs H Q E h => spD_len h (by rintro ds r ⟨d, S, lot, rfl, _⟩; rfl)) (fun cdv A outer s H vs Q E hr h => ?_), F.gl, F.fn.kp, F.fn.binds fun _ _ _ _ _ _ us hl => match us, hl with | [_, _], _ => rfl⟩
  refine ⟨_, (pss_one (ps_ret (pe_call C__law_determinant.ok (hr.mono (by first | decide | omega)) (by rfl) C__law_determinant.gl C__law_determinant.kp C__law_determinant.bi .nil pass0 (pa_cons (pe_call C__law_waysTT.ok (hr.mono (by first | decide | omega)) (by rfl) C__law_waysTT.gl C__law_waysTT.kp C__law_waysTT.bi .nil pass0 (pa_cons (pv 0) (pa_cons (pv 1) pa_nil))) pa_nil)))), ?_⟩
  refine run_spD h ?_
  rintro ds r ⟨d, S, lot, rfl, hS, hl, hk, rfl⟩ b D hD
  have hd := hS.d1
  have hd3 := hS.d3
  have wl : (waysM S lot).length = d := by rw [ways_len, hl]; rfl
  have wr := fun r hr => pts_row (r := r) hS hk hr
  refine go_ret ?_ hD.rt
  refine de_call (r := .int (det (waysM S lot))) (da_cons (de_call (r := lL (waysM S lot)) (da_cons (de_var rfl) (da_cons (de_var rfl) da_nil)) ⟨d, S, lot, rfl, ?_, by omega, hk, hS.len, by omega, rfl⟩) da_nil) ⟨d, waysM S lot, rfl, wl, hd3, fun l hl' => ⟨(wr l hl').1, (wr l hl').2⟩, ?_⟩
  · intro z
    rw [z] at hl
    simp at hl
  · rw [← ldet_det (d := d) (sq_rows hd hd3 wl fun r hr => (wr r hr).1), wl]
theorem ok__law_waysLT (T : Txt mg) {f : Addr} {fd : FuncData} (F : Stands K mg "_law_ways" st__law_ways f fd) : CalAt P w K mg base "_law_ways" 1 f fd ["_law_points", "_law_lot"] (spD fun ds r => ∃ (d : Nat) (S : List (List Int)) (lot : List Nat), ds = [lT S, tI (nD lot)] ∧ lot ≠ [] ∧ lot.length ≤ 100 ∧ (∀ k ∈ lot, k < S.length) ∧ (∀ p ∈ S, p.length = d) ∧ d ≤ 100 ∧ r = lL (waysM S lot)) := by
  refine ⟨F.fn.ok sc__law_ways (fun vs H Q E h => spD_len h (by rintro ds r ⟨d, S, lot, rfl, _⟩; rfl)) (fun cdv A outer s H vs Q E hr h => ?_), F.gl, F.fn.kp, F.fn.binds fun _ _ _ _ _ _ us hl => match us, hl with | [_, _], _ => rfl⟩
  refine ⟨_, (pss_cons (ps_set (i := 2) sc__law_ways.nd rfl (Or.inr rfl) (pe_ix (r := rIxL K) ix_list (pv 0) (pe_ix (r := rIxT K) ix_tup (pv 1) pe_int (fun _ _ => rfl)) (fun _ _ => rfl)))
      (pss_one (ps_ret (pe_lc (own := [("_law_k", 3)]) (g := (gName 3)) (tt := tYes) rfl sc__law_ways.nd (pi_tup (pe_slice (r := rSlA K) sl_tupA (pv 1) (po_some pe_int) po_none)) (blkOk_by (N := nm__law_ways) (sc := (defScope st__law_ways)) (by decide +kernel)) (fun _ _ _ _ _ => (pg_name (i := 3) sc__law_ways.nd rfl (Or.inr rfl))) (fun _ _ _ _ _ => pts_nil) (fun _ _ _ _ _ => (pe_lc (own := [("_law_at", 4)]) (g := (gName 4)) (tt := tYes) rfl sc__law_ways.nd (pi_range1 (by rfl) T.n_range (pa_cons (pe_callB (r := rLenD K) call_len_seq (by rfl) T.n_len PySem.boot_len (pa_cons (pv 2) pa_nil)) pa_nil)) (blkOk_by (N := nm__law_ways) (sc := (relS cmp__law_ways (defScope st__law_ways))) (by decide +kernel)) (fun _ _ _ _ _ => (pg_name (i := 4) sc__law_ways.nd rfl (Or.inl rfl))) (fun _ _ _ _ _ => pts_nil) (fun _ _ _ _ _ => (pe_op op_sub (pe_ix (r := rIxT K) ix_tup (pe_ix (r := rIxL K) ix_list (pv 0) (pv 3) (fun _ _ => rfl)) (pv 4) (fun _ _ => rfl)) (pe_ix (r := rIxT K) ix_tup (pv 2) (pv 4) (fun _ _ => rfl)))))))))), ?_⟩
  refine run_spD h ?_
  rintro ds r ⟨d, S, lot, rfl, h0, hl, hk, hp, hd, rfl⟩ b D hD
  cases lot with
  | nil => exact absurd rfl h0
  | cons l0 rest =>
    have hk0 : l0 < S.length := hk l0 (by simp)
    have p0 := hp _ (pt_mem hk0)
    refine gs_asg (d := tI (pt S l0)) (de_ixL (de_var rfl) (de_ixT (de_var rfl) de_int (atI_nat (j := 0) rfl)) (at_pt hk0)) ?_
    refine go_ret ?_ hD.rt
    refine de_is (de_map (xs := rest) (enc := fun (k : Nat) => .int (k : Int)) (f := fun k => lI (lessM (pt S k) (pt S l0))) (js := [3]) ?_ (by simp at hl; omega) (by decide) (fun _ _ => dg_name) fun k hm => ?_) ?_
    · have e : cutD ((nD (l0 :: rest)).map PyData.int) (some ((1 : Nat) : Int)) none = rest.map fun (k : Nat) => PyData.int (k : Int) := by
        rw [cutD_from]
        simp [nD]
      rw [← e]
      exact di_tup (de_slT (de_var rfl) (do_some de_int) do_none)
    · have hkk : k < S.length := hk k (by simp [hm])
      have pk := hp _ (pt_mem hkk)
      refine de_is (de_map (xs := List.range (pt S k).length) (enc := fun (j : Nat) => .int (j : Int)) (f := fun j => .int ((pt S k).getD j 0 - (pt S l0).getD j 0)) (js := [4])
        (di_rng1 (n := ((pt S k).length : Int)) (da_cons (de_is (de_cb (da_cons (de_var rfl) da_nil) (dc_len (.t _))) (by rw [List.length_map, p0, pk])) da_nil) (by omega)) (by rw [List.length_range]; omega) (by decide) (fun _ _ => dg_name)
        fun j hj => de_sub (de_ixT (ds := (pt S k).map .int) (de_ixL (de_var rfl) (de_var rfl) (at_pt hkk)) (de_var rfl) (at_int (List.mem_range.mp hj))) (de_ixT (ds := (pt S l0).map .int) (de_var rfl) (de_var rfl) (at_int (by have := List.mem_range.mp hj; omega)))) ?_
      unfold lessM lI
      rw [← zip_range (g := (· - ·)) (by omega), List.map_map]
      rfl
    · simp [waysM, lL, Function.comp_def]
theorem ok__law_spanLT (T : Txt mg) (C__law_waysLT : ∃ f fd, CalAt P w K mg base "_law_ways" 1 f fd ["_law_points", "_law_lot"] (spD fun ds r => ∃ (d : Nat) (S : List (List Int)) (lot : List Nat), ds = [lT S, tI (nD lot)] ∧ lot ≠ [] ∧ lot.length ≤ 100 ∧ (∀ k ∈ lot, k < S.length) ∧ (∀ p ∈ S, p.length = d) ∧ d ≤ 100 ∧ r = lL (waysM S lot)))
    (C__law_determinant : ∃ f fd, CalAt P w K mg base "_law_determinant" 4 f fd ["_law_rows"] (spD fun ds r => ∃ n, gLdet n ds r)) {f : Addr} {fd : FuncData} (F : Stands K mg "_law_span" st__law_span f fd) :
    CalAt P w K mg base "_law_span" 5 f fd ["_law_points", "_law_lot"] (spD fun ds r => ∃ (d : Nat) (S : List (List Int)) (lot : List Nat), ds = [lT S, tI (nD lot)] ∧ Pts d S ∧ lot.length = d + 1 ∧ (∀ k ∈ lot, k < S.length) ∧ r = .int (det (waysM S lot))) := by
  obtain ⟨_, _, C__law_waysLT⟩ := C__law_waysLT
  obtain ⟨_, _, C__law_determinant⟩ := C__law_determinant
  refine ⟨F.fn.ok sc__law_span (fun vs H Q E h => spD_len h (by rintro ds r ⟨d, S, lot, rfl, _⟩; rfl)) (fun cdv A outer s H vs Q E hr h => ?_), F.gl, F.fn.kp, F.fn.binds fun _ _ _ _ _ _ us hl => match us, hl with | [_, _], _ => rfl⟩
  refine ⟨_, (pss_one (ps_ret (pe_call C__law_determinant.ok (hr.mono (by first | decide | omega)) (by rfl) C__law_determinant.gl C__law_determinant.kp C__law_determinant.bi .nil pass0 (pa_cons (pe_call C__law_waysLT.ok (hr.mono (by first | decide | omega)) (by rfl) C__law_waysLT.gl C__law_waysLT.kp C__law_waysLT.bi .nil pass0 (pa_cons (pv 0) (pa_cons (pv 1) pa_nil))) pa_nil)))), ?_⟩
  refine run_spD h ?_
  rintro ds r ⟨d, S, lot, rfl, hS, hl, hk, rfl⟩ b D hD
  have hd := hS.d1
  have hd3 := hS.d3
  have wl : (waysM S lot).length = d := by rw [ways_len, hl]; rfl
  have wr := fun r hr => pts_row (r := r) hS hk hr
  refine go_ret ?_ hD.rt
  refine de_call (r := .int (det (waysM S lot))) (da_cons (de_call (r := lL (waysM S lot)) (da_cons (de_var rfl) (da_cons (de_var rfl) da_nil)) ⟨d, S, lot, rfl, ?_, by omega, hk, hS.len, by omega, rfl⟩) da_nil) ⟨d, waysM S lot, rfl, wl, hd3, fun l hl' => ⟨(wr l hl').1, (wr l hl').2⟩, ?_⟩
  · intro z
    rw [z] at hl
    simp at hl
  · rw [← ldet_det (d := d) (sq_rows hd hd3 wl fun r hr => (wr r hr).1), wl]
theorem ok__law_waysLL (T : Txt mg) {f : Addr} {fd : FuncData} (F : Stands K mg "_law_ways" st__law_ways f fd) : CalAt P w K mg base "_law_ways" 1 f fd ["_law_points", "_law_lot"] (spD fun ds r => ∃ (d : Nat) (S : List (List Int)) (lot : List Nat), ds = [lT S, lI (nD lot)] ∧ lot ≠ [] ∧ lot.length ≤ 100 ∧ (∀ k ∈ lot, k < S.length) ∧ (∀ p ∈ S, p.length = d) ∧ d ≤ 100 ∧ r = lL (waysM S lot)) := by
  refine ⟨F.fn.ok sc__law_ways (fun vs H Q E h => spD_len h (by rintro ds r ⟨d, S, lot, rfl, _⟩; rfl)) (fun cdv A outer s H vs Q E hr h => ?_), F.gl, F.fn.kp, F.fn.binds fun _ _ _ _ _ _ us hl => match us, hl with | [_, _], _ => rfl⟩
  refine ⟨_, (pss_cons (ps_set (i := 2) sc__law_ways.nd rfl (Or.inr rfl) (pe_ix (r := rIxL K) ix_list (pv 0) (pe_ix (r := rIxL K) ix_list (pv 1) pe_int (fun _ _ => rfl)) (fun _ _ => rfl)))
      (pss_one (ps_ret (pe_lc (own := [("_law_k", 3)]) (g := (gName 3)) (tt := tYes) rfl sc__law_ways.nd (pi_list (pe_slice (r := rSlL K) sl_list (pv 1) (po_some pe_int) po_none)) (blkOk_by (N := nm__law_ways) (sc := (defScope st__law_ways)) (by decide +kernel)) (fun _ _ _ _ _ => (pg_name (i := 3) sc__law_ways.nd rfl (Or.inr rfl))) (fun _ _ _ _ _ => pts_nil) (fun _ _ _ _ _ => (pe_lc (own := [("_law_at", 4)]) (g := (gName 4)) (tt := tYes) rfl sc__law_ways.nd (pi_range1 (by rfl) T.n_range (pa_cons (pe_callB (r := rLenD K) call_len_seq (by rfl) T.n_len PySem.boot_len (pa_cons (pv 2) pa_nil)) pa_nil)) (blkOk_by (N := nm__law_ways) (sc := (relS cmp__law_ways (defScope st__law_ways))) (by decide +kernel)) (fun _ _ _ _ _ => (pg_name (i := 4) sc__law_ways.nd rfl (Or.inl rfl))) (fun _ _ _ _ _ => pts_nil) (fun _ _ _ _ _ => (pe_op op_sub (pe_ix (r := rIxT K) ix_tup (pe_ix (r := rIxL K) ix_list (pv 0) (pv 3) (fun _ _ => rfl)) (pv 4) (fun _ _ => rfl)) (pe_ix (r := rIxT K) ix_tup (pv 2) (pv 4) (fun _ _ => rfl)))))))))), ?_⟩
  refine run_spD h ?_
  rintro ds r ⟨d, S, lot, rfl, h0, hl, hk, hp, hd, rfl⟩ b D hD
  cases lot with
  | nil => exact absurd rfl h0
  | cons l0 rest =>
    have hk0 : l0 < S.length := hk l0 (by simp)
    have p0 := hp _ (pt_mem hk0)
    refine gs_asg (d := tI (pt S l0)) (de_ixL (de_var rfl) (de_ixL (de_var rfl) de_int (atI_nat (j := 0) rfl)) (at_pt hk0)) ?_
    refine go_ret ?_ hD.rt
    refine de_is (de_map (xs := rest) (enc := fun (k : Nat) => .int (k : Int)) (f := fun k => lI (lessM (pt S k) (pt S l0))) (js := [3]) ?_ (by simp at hl; omega) (by decide) (fun _ _ => dg_name) fun k hm => ?_) ?_
    · have e : cutD ((nD (l0 :: rest)).map PyData.int) (some ((1 : Nat) : Int)) none = rest.map fun (k : Nat) => PyData.int (k : Int) := by
        rw [cutD_from]
        simp [nD]
      rw [← e]
      exact di_list (de_slL (de_var rfl) (do_some de_int) do_none)
    · have hkk : k < S.length := hk k (by simp [hm])
      have pk := hp _ (pt_mem hkk)
      refine de_is (de_map (xs := List.range (pt S k).length) (enc := fun (j : Nat) => .int (j : Int)) (f := fun j => .int ((pt S k).getD j 0 - (pt S l0).getD j 0)) (js := [4])
        (di_rng1 (n := ((pt S k).length : Int)) (da_cons (de_is (de_cb (da_cons (de_var rfl) da_nil) (dc_len (.t _))) (by rw [List.length_map, p0, pk])) da_nil) (by omega)) (by rw [List.length_range]; omega) (by decide) (fun _ _ => dg_name)
        fun j hj => de_sub (de_ixT (ds := (pt S k).map .int) (de_ixL (de_var rfl) (de_var rfl) (at_pt hkk)) (de_var rfl) (at_int (List.mem_range.mp hj))) (de_ixT (ds := (pt S l0).map .int) (de_var rfl) (de_var rfl) (at_int (by have := List.mem_range.mp hj; omega)))) ?_
      unfold lessM lI
      rw [← zip_range (g := (· - ·)) (by omega), List.map_map]
      rfl
    · simp [waysM, lL, Function.comp_def]
theorem ok__law_spanLL (T : Txt mg) (C__law_waysLL : ∃ f fd, CalAt P w K mg base "_law_ways" 1 f fd ["_law_points", "_law_lot"] (spD fun ds r => ∃ (d : Nat) (S : List (List Int)) (lot : List Nat), ds = [lT S, lI (nD lot)] ∧ lot ≠ [] ∧ lot.length ≤ 100 ∧ (∀ k ∈ lot, k < S.length) ∧ (∀ p ∈ S, p.length = d) ∧ d ≤ 100 ∧ r = lL (waysM S lot)))
    (C__law_determinant : ∃ f fd, CalAt P w K mg base "_law_determinant" 4 f fd ["_law_rows"] (spD fun ds r => ∃ n, gLdet n ds r)) {f : Addr} {fd : FuncData} (F : Stands K mg "_law_span" st__law_span f fd) :
    CalAt P w K mg base "_law_span" 5 f fd ["_law_points", "_law_lot"] (spD fun ds r => ∃ (d : Nat) (S : List (List Int)) (lot : List Nat), ds = [lT S, lI (nD lot)] ∧ Pts d S ∧ lot.length = d + 1 ∧ (∀ k ∈ lot, k < S.length) ∧ r = .int (det (waysM S lot))) := by
  obtain ⟨_, _, C__law_waysLL⟩ := C__law_waysLL
  obtain ⟨_, _, C__law_determinant⟩ := C__law_determinant
  refine ⟨F.fn.ok sc__law_span (fun vs H Q E h => spD_len h (by rintro ds r ⟨d, S, lot, rfl, _⟩; rfl)) (fun cdv A outer s H vs Q E hr h => ?_), F.gl, F.fn.kp, F.fn.binds fun _ _ _ _ _ _ us hl => match us, hl with | [_, _], _ => rfl⟩
  refine ⟨_, (pss_one (ps_ret (pe_call C__law_determinant.ok (hr.mono (by first | decide | omega)) (by rfl) C__law_determinant.gl C__law_determinant.kp C__law_determinant.bi .nil pass0 (pa_cons (pe_call C__law_waysLL.ok (hr.mono (by first | decide | omega)) (by rfl) C__law_waysLL.gl C__law_waysLL.kp C__law_waysLL.bi .nil pass0 (pa_cons (pv 0) (pa_cons (pv 1) pa_nil))) pa_nil)))), ?_⟩
  refine run_spD h ?_
  rintro ds r ⟨d, S, lot, rfl, hS, hl, hk, rfl⟩ b D hD
  have hd := hS.d1
  have hd3 := hS.d3
  have wl : (waysM S lot).length = d := by rw [ways_len, hl]; rfl
  have wr := fun r hr => pts_row (r := r) hS hk hr
  refine go_ret ?_ hD.rt
  refine de_call (r := .int (det (waysM S lot))) (da_cons (de_call (r := lL (waysM S lot)) (da_cons (de_var rfl) (da_cons (de_var rfl) da_nil)) ⟨d, S, lot, rfl, ?_, by omega, hk, hS.len, by omega, rfl⟩) da_nil) ⟨d, waysM S lot, rfl, wl, hd3, fun l hl' => ⟨(wr l hl').1, (wr l hl').2⟩, ?_⟩
  · intro z
    rw [z] at hl
    simp at hl
  · rw [← ldet_det (d := d) (sq_rows hd hd3 wl fun r hr => (wr r hr).1), wl]

end LW

namespace LW
open PySem PySem.Spec PyProof.Rows L2
open Evl (Ex)
variable {P : Program} {w : World} {K : PySem.W.Frag} {mg : Str → Option Value} {base : Heap}

/-! ### least and greatest -/
noncomputable def mxI (l : List Int) : Int := open Classical in if h : l ≠ [] then (ex_max h).choose else 0
noncomputable def mnI (l : List Int) : Int := open Classical in if h : l ≠ [] then (ex_min h).choose else 0
theorem mxI_spec {l : List Int} (h : l ≠ []) : mxI l ∈ l ∧ ∀ y ∈ l, y ≤ mxI l := by
  unfold mxI
  rw [dif_pos h]
  exact (ex_max h).choose_spec
theorem mnI_spec {l : List Int} (h : l ≠ []) : mnI l ∈ l ∧ ∀ y ∈ l, mnI l ≤ y := by
  unfold mnI
  rw [dif_pos h]
  exact (ex_min h).choose_spec
theorem mxI_bd {l : List Int} {c : Int} (h : l ≠ []) (hc : ∀ x ∈ l, -c ≤ x ∧ x ≤ c) : -c ≤ mxI l ∧ mxI l ≤ c := hc _ (mxI_spec h).1
theorem mnI_bd {l : List Int} {c : Int} (h : l ≠ []) (hc : ∀ x ∈ l, -c ≤ x ∧ x ≤ c) : -c ≤ mnI l ∧ mnI l ≤ c := hc _ (mnI_spec h).1
theorem dc_maxI {l : List Int} (h : l ≠ []) : DC (rMax K) [.list (l.map .int)] (.int (mxI l)) := dc_max (mxI_spec h).1 (mxI_spec h).2
theorem dc_minI {l : List Int} (h : l ≠ []) : DC (rMin K) [.list (l.map .int)] (.int (mnI l)) := dc_min (mnI_spec h).1 (mnI_spec h).2

/-! ### the box -/
def Near (S : List (List Int)) : Prop := ∀ p ∈ S, ∀ x ∈ p, -20 ≤ x ∧ x ≤ 20
abbrev colM (S : List (List Int)) (k : Nat) : List Int := S.map fun p => p.getD k 0
noncomputable def loM (S : List (List Int)) (k : Nat) : Int := 1 * mnI (colM S k) - 1
noncomputable def hiM (S : List (List Int)) (k : Nat) : Int := 1 * mxI (colM S k) + 1
noncomputable def extM (S : List (List Int)) (k : Nat) (p : List Int) : List (List Int) := (List.range (hiM S k + 1 - loM S k).toNat).map fun (j : Nat) => p ++ [loM S k + (j : Int)]
noncomputable def boxK (S : List (List Int)) : Nat → List (List Int)
  | 0 => [[]]
  | k + 1 => (boxK S k).flatMap (extM S k)
theorem lohi {d : Nat} {S : List (List Int)} (hS : Shp d S) (hN : Near S) {k : Nat} (hk : k < d) : -21 ≤ loM S k ∧ loM S k ≤ 19 ∧ -19 ≤ hiM S k ∧ hiM S k ≤ 21 := by
  have hne : colM S k ≠ [] := by
    obtain ⟨p, T, rfl⟩ := hS.ne
    simp
  have hb : ∀ x ∈ colM S k, -20 ≤ x ∧ x ≤ 20 := fun x hx => by
    obtain ⟨p, hp, rfl⟩ := List.mem_map.mp hx
    have e : p.getD k 0 ∈ p := by
      have hl : k < p.length := by rw [hS.len p hp]; exact hk
      rw [List.getD_eq_getElem?_getD, List.getElem?_eq_getElem hl]
      exact List.getElem_mem hl
    exact hN p hp _ e
  have h1 := mnI_bd hne hb
  have h2 := mxI_bd hne hb
  unfold loM hiM
  omega
theorem ext_len {d : Nat} {S : List (List Int)} (hS : Shp d S) (hN : Near S) {k : Nat} (hk : k < d) (p : List Int) : (extM S k p).length ≤ 43 := by
  have := lohi hS hN hk
  unfold extM
  rw [List.length_map, List.length_range]
  omega
theorem flat_len {α β : Type} {f : α → List β} {n : Nat} : ∀ (l : List α), (∀ a, (f a).length ≤ n) → (l.flatMap f).length ≤ l.length * n
  | [], _ => by simp
  | a :: l, h => by
    rw [List.flatMap_cons, List.length_append, List.length_cons, Nat.succ_mul]
    have := flat_len l h
    have := h a
    omega
theorem box_len {d : Nat} {S : List (List Int)} (hS : Shp d S) (hN : Near S) : ∀ k, k ≤ d → (boxK S k).length ≤ 43 ^ k
  | 0, _ => by simp [boxK]
  | k + 1, hk => by
    rw [boxK, Nat.pow_succ]
    exact Nat.le_trans (flat_len _ fun p => ext_len hS hN (by omega) p) (Nat.mul_le_mul_right _ (box_len hS hN k (by omega)))
theorem box_small {d : Nat} {S : List (List Int)} (hS : Shp d S) (hN : Near S) {k : Nat} (hk : k ≤ d) : (boxK S k).length ≤ 79507 := by
  have h1 := box_len hS hN k hk
  have h2 : 43 ^ k ≤ 43 ^ 3 := Nat.pow_le_pow_right (by decide) (Nat.le_trans hk hS.d3)
  exact Nat.le_trans h1 h2
theorem box_mem {d : Nat} {S : List (List Int)} (hS : Shp d S) (hN : Near S) : ∀ k, k ≤ d → ∀ p ∈ boxK S k, p.length = k ∧ ∀ x ∈ p, -21 ≤ x ∧ x ≤ 21
  | 0, _, p, hp => by
    have e : p = [] := by simpa [boxK] using hp
    subst e
    exact ⟨rfl, fun x hx => by cases hx⟩
  | k + 1, hk, p, hp => by
    rw [boxK] at hp
    obtain ⟨q, hq, hm⟩ := List.mem_flatMap.mp hp
    obtain ⟨j, hj, rfl⟩ := List.mem_map.mp hm
    have ih := box_mem hS hN k (by omega) q hq
    have hb := lohi hS hN (k := k) (by omega)
    have := List.mem_range.mp hj
    refine ⟨by rw [List.length_append, ih.1]; rfl, fun x hx => ?_⟩
    rcases List.mem_append.mp hx with h | h
    · exact ih.2 x h
    · have e : x = loM S k + (j : Int) := by simpa using h
      omega

abbrev nm__law_box : List Str := ["_law_points", "_law_n", "_law_more", "_law_found", "_law_k", "_law_longer", "_law_p", "_law_low", "_law_high", "_law_x"]
abbrev st__law_box : Stmt := topS 35
theorem sc__law_box : FnScope nm__law_box ["_law_points", "_law_n", "_law_more"] (defScope st__law_box) := ⟨rfl, rfl, rfl, by decide +kernel, rfl, by decide +kernel, by decide +kernel⟩
def gBox (ds : List PyData) (r : PyData) : Prop := ∃ d S, Shp d S ∧ Near S ∧ ds = [tT S, .int 1, .int 1] ∧ r = lT (boxK S d)
theorem ok__law_box (T : Txt mg) {f : Addr} {fd : FuncData} (F : Stands K mg "_law_box" st__law_box f fd) : CalAt P w K mg base "_law_box" 1 f fd ["_law_points", "_law_n", "_law_more"] (spD gBox) := by
  refine ⟨F.fn.ok sc__law_box (fun vs H Q E h => spD_len h (by rintro ds r ⟨d, S, _, _, rfl, _⟩; rfl)) (fun cdv A outer s H vs Q E hr h => ?_), F.gl, F.fn.kp, F.fn.binds fun _ _ _ _ _ _ us hl => match us, hl with | [_, _, _], _ => rfl⟩
  refine ⟨_, (pss_cons (ps_set (i := 3) sc__law_box.nd rfl (Or.inl rfl) (pe_lst (pa_cons (pe_tup pa_nil) pa_nil)))
      (pss_cons (ps_for PassesOwn.never rfl (pi_range1 (by rfl) T.n_range (pa_cons (pe_callB (r := rLenD K) call_len_seq (by rfl) T.n_len PySem.boot_len (pa_cons (pe_ix (r := rIxT K) ix_tup (pv 0) pe_int (fun _ _ => rfl)) pa_nil)) pa_nil)) (pg_name (i := 4) sc__law_box.nd rfl (Or.inr rfl)) (pss_cons (ps_par (i := 7) (j := 8) (by rfl) sc__law_box.nd rfl rfl (by decide) rfl rfl (pa_cons (pe_op op_sub (pe_op op_mul (pv 1) (pe_callB (r := rMin K) (cr_min rfl) (by rfl) T.n_min (by decide +kernel) (pa_cons (pe_lc (own := [("_law_p", 6)]) (g := (gName 6)) (tt := tYes) rfl sc__law_box.nd (pi_tup (pv 0)) (blkOk_by (N := nm__law_box) (sc := (defScope st__law_box)) (by decide +kernel)) (fun _ _ _ _ _ => (pg_name (i := 6) sc__law_box.nd rfl (Or.inl rfl))) (fun _ _ _ _ _ => pts_nil) (fun _ _ _ _ _ => (pe_ix (r := rIxT K) ix_tup (pv 6) (pv 4) (fun _ _ => rfl)))) pa_nil))) (pv 2)) (pa_cons (pe_op op_add (pe_op op_mul (pv 1) (pe_callB (r := rMax K) (cr_max rfl) (by rfl) T.n_max (by decide +kernel) (pa_cons (pe_lc (own := [("_law_p", 6)]) (g := (gName 6)) (tt := tYes) rfl sc__law_box.nd (pi_tup (pv 0)) (blkOk_by (N := nm__law_box) (sc := (defScope st__law_box)) (by decide +kernel)) (fun _ _ _ _ _ => (pg_name (i := 6) sc__law_box.nd rfl (Or.inl rfl))) (fun _ _ _ _ _ => pts_nil) (fun _ _ _ _ _ => (pe_ix (r := rIxT K) ix_tup (pv 6) (pv 4) (fun _ _ => rfl)))) pa_nil))) (pv 2)) pa_nil)) (by rfl))
      (pss_cons (ps_set (i := 5) sc__law_box.nd rfl (Or.inl rfl) (pe_lst pa_nil))
      (pss_cons (ps_for PassesOwn.never rfl (pi_list (pv 3)) (pg_name (i := 6) sc__law_box.nd rfl (Or.inr rfl)) (pss_one (ps_set (i := 5) sc__law_box.nd rfl (Or.inl rfl) (pe_op op_cat (pv 5) (pe_lc (own := [("_law_x", 9)]) (g := (gName 9)) (tt := tYes) rfl sc__law_box.nd (pi_range2 (by rfl) T.n_range (pa_cons (pv 7) (pa_cons (pe_op op_add (pv 8) pe_int) pa_nil))) (blkOk_by (N := nm__law_box) (sc := (defScope st__law_box)) (by decide +kernel)) (fun _ _ _ _ _ => (pg_name (i := 9) sc__law_box.nd rfl (Or.inl rfl))) (fun _ _ _ _ _ => pts_nil) (fun _ _ _ _ _ => (pe_op (r := rCatA K) op_catA (pv 6) (pe_tup (pa_cons (pv 9) pa_nil)))))))))
      (pss_one (ps_set (i := 3) sc__law_box.nd rfl (Or.inl rfl) (pv 5)))))))
      (pss_one (ps_ret (pv 3))))), ?_⟩
  refine run_spD h ?_
  rintro ds r ⟨d, S, hS, hN, rfl, rfl⟩ b D hD
  have n2 := hS.n2
  have n12 := hS.n12
  have p0 : (pt S 0).length = d := hS.len _ (pt_mem (by omega))
  have hd3 := hS.d3
  refine gs_asg (d := lT [[]]) (de_lst (da_cons (de_tup da_nil (Nat.zero_le _)) da_nil) (by decide)) ?_
  refine gs_forN (xs := List.range d) (enc := fun (k : Nat) => .int (k : Int)) (fun pre => [.dat (tT S), .dat (.int 1), .dat (.int 1), .dat (lT (boxK S pre.length)), .any, .any, .any, .any, .any, .any]) (fun _ => True)
    (di_rng1 (n := (d : Int)) (da_cons (de_is (de_cb (da_cons (de_ixT (de_var rfl) de_int (at_pt0 (k := 0) rfl (by omega))) da_nil) (dc_len (.t _))) (by rw [List.length_map, p0])) da_nil) (by omega)) (LeE.refl _) trivial (fun pre k post c e _ h1 h2 => ?_) fun _ => ?_
  · obtain ⟨ek, hk⟩ := range_at e
    have hb := lohi hS hN hk
    have hne : colM S k ≠ [] := by
      obtain ⟨p, T, rfl⟩ := hS.ne
      simp
    have col : ∀ {env : EnvT}, env[0]? = some (.dat (tT S)) → (env.set 6 .any)[0]? = some (.dat (tT S)) := fun {env} h => by rw [List.getElem?_set_ne (by decide)]; exact h
    refine gs_par (x := .int (loM S k)) (y := .int (hiM S k)) (da_cons (de_sub (de_mul (de_var rfl) (de_cb (da_cons (de_is (de_map (xs := S) (enc := tI) (f := fun p => .int (p.getD k 0)) (js := [6]) (di_tup (de_var rfl)) (by omega) (by decide) (fun _ _ => dg_name)
        fun p hp => de_ixT (ds := p.map .int) (de_var rfl) (de_var rfl) (at_int (by rw [hS.len p hp]; exact hk))) (y := .list ((colM S k).map .int)) (by rw [List.map_map]; rfl)) da_nil) (dc_minI hne)) (.inl (by decide))) (de_var rfl))
      (da_cons (de_add (de_mul (de_var rfl) (de_cb (da_cons (de_is (de_map (xs := S) (enc := tI) (f := fun p => .int (p.getD k 0)) (js := [6]) (di_tup (de_var rfl)) (by omega) (by decide) (fun _ _ => dg_name)
        fun p hp => de_ixT (ds := p.map .int) (de_var rfl) (de_var rfl) (at_int (by rw [hS.len p hp]; exact hk))) (y := .list ((colM S k).map .int)) (by rw [List.map_map]; rfl)) da_nil) (dc_maxI hne)) (.inl (by decide))) (de_var rfl)) da_nil)) ?_
    refine gs_asg (d := lT []) (de_lst da_nil (by decide)) ?_
    have lb : (boxK S pre.length).length ≤ 79507 := box_small hS hN (by omega)
    refine gs_forN (xs := boxK S pre.length) (enc := tI) (fun pre2 => [.dat (tT S), .dat (.int 1), .dat (.int 1), .any, .any, .dat (lT (pre2.flatMap (extM S k))), .any, .dat (.int (loM S k)), .dat (.int (hiM S k)), .any]) (fun _ => True)
      (di_list (de_var rfl)) (.eq (.eq (.eq (.any (.any (.eq (.any (.eq (.eq (.any .nil)))))))))) trivial (fun pre2 p post2 c2 e2 _ _ _ => ?_) fun _ => ?_
    · have lp : (pre2.flatMap (extM S k)).length ≤ 79507 - 43 := by
        have q := box_small hS hN (k := k + 1) (by omega)
        have l2 := flat_len pre2 fun p => ext_len hS hN hk p
        have l3 := congrArg List.length e2
        rw [List.length_append, List.length_cons] at l3
        have l4 : (boxK S pre.length).length ≤ 43 ^ 2 := Nat.le_trans (box_len hS hN _ (by omega)) (Nat.pow_le_pow_right (by decide) (by omega))
        have l5 : pre2.length ≤ 1848 := by omega
        have : pre2.length * 43 ≤ 1848 * 43 := Nat.mul_le_mul_right _ l5
        omega
      have le := ext_len hS hN hk p
      refine go_asg (d := lT ((pre2 ++ [p]).flatMap (extM S k))) (de_is (de_catL (de_var rfl) (de_map (xs := List.range (hiM S k + 1 - loM S k).toNat) (enc := fun (j : Nat) => .int (loM S k + (j : Int))) (f := fun j => tI (p ++ [loM S k + (j : Int)])) (js := [9])
        (di_rng2 (da_cons (de_var rfl) (da_cons (de_add (de_var rfl) de_int) da_nil)) (by omega) (by omega)) (by rw [List.length_range]; omega) (by decide) (fun _ _ => dg_name)
        fun j hj => de_is (de_catT (de_var rfl) (de_tup (da_cons (de_var rfl) da_nil) (by show 1 ≤ _; decide)) ?_) (by simp [tI])) ?_) ?_) (go_turn trivial (.eq (.eq (.eq (.any (.any (.eq (.any (.eq (.eq (.any .nil)))))))))))
      · have := (box_mem hS hN pre.length (by omega) p (by rw [e2]; simp)).1
        simp
        omega
      · rw [List.length_map, List.length_map, List.length_range]
        unfold extM at le
        rw [List.length_map, List.length_range] at le
        omega
      · rw [List.flatMap_append, List.flatMap_singleton]
        simp [extM, lT, Function.comp_def]
    · refine go_asg (d := lT (boxK S (pre ++ [k]).length)) (de_is (de_var rfl) ?_) (go_turn trivial (.eq (.eq (.eq (.eq (.any (.any (.any (.any (.any (.any .nil))))))))))) 
      rw [List.length_append, List.length_singleton, boxK, ek]
  · rw [List.length_range]
    exact go_ret (de_var rfl) hD.rt

/-! ### the place -/
abbrev fT (R : List FP) : PyData := .tuple (R.map prD)
noncomputable def mostM (R : List FP) (p : List Int) : Int := mxI (R.map fun q => dotM q.1 p - q.2)
abbrev nm__law_place : List Str := ["_law_rows", "_law_p", "_law_most", "_law_a", "_law_b"]
abbrev st__law_place : Stmt := topS 36
theorem sc__law_place : FnScope nm__law_place ["_law_rows", "_law_p"] (defScope st__law_place) := ⟨rfl, rfl, rfl, by decide +kernel, rfl, by decide +kernel, by decide +kernel⟩
def gPlace (ds : List PyData) (r : PyData) : Prop := ∃ (d : Nat) (R : List FP) (p : List Int), ds = [fT R, tI p] ∧ R ≠ [] ∧ R.length ≤ 100000 ∧ d ≤ 100 ∧ p.length = d ∧ (∀ q ∈ R, q.1.length = d ∧ Sm q.1) ∧ r = .int (if mostM R p < 0 then 1 else if mostM R p = 0 then 0 else -1)
theorem ok__law_place (T : Txt mg) (C__law_dot : ∃ f fd, CalAt P w K mg base "_law_dot" 1 f fd ["_law_one", "_law_other"] (spD fun ds r => ∃ a b : List Int, ds = [tI a, tI b] ∧ Sm a ∧ a.length ≤ 100 ∧ a.length = b.length ∧ r = .int (dotM a b)))
    {f : Addr} {fd : FuncData} (F : Stands K mg "_law_place" st__law_place f fd) : CalAt P w K mg base "_law_place" 2 f fd ["_law_rows", "_law_p"] (spD gPlace) := by
  obtain ⟨_, _, C__law_dot⟩ := C__law_dot
  refine ⟨F.fn.ok sc__law_place (fun vs H Q E h => spD_len h (by rintro ds r ⟨d, R, p, rfl, _⟩; rfl)) (fun cdv A outer s H vs Q E hr h => ?_), F.gl, F.fn.kp, F.fn.binds fun _ _ _ _ _ _ us hl => match us, hl with | [_, _], _ => rfl⟩
  refine ⟨_, (pss_cons (ps_set (i := 2) sc__law_place.nd rfl (Or.inl rfl) (pe_callB (r := rMax K) (cr_max rfl) (by rfl) T.n_max (by decide +kernel) (pa_cons (pe_lc (own := [("_law_a", 3), ("_law_b", 4)]) (g := (gTup K 2 (gCons (gName 3) (gCons (gName 4) gNil)))) (tt := tYes) rfl sc__law_place.nd (pi_tup (pv 0)) (blkOk_by (N := nm__law_place) (sc := (defScope st__law_place)) (by decide +kernel)) (fun _ _ _ _ _ => (pg_tup rfl (pgs_cons (pg_name (i := 3) sc__law_place.nd rfl (Or.inl rfl)) (pgs_cons (pg_name (i := 4) sc__law_place.nd rfl (Or.inl rfl)) pgs_nil)))) (fun _ _ _ _ _ => pts_nil) (fun _ _ _ _ _ => (pe_op op_sub (pe_call C__law_dot.ok (hr.mono (by first | decide | omega)) (by rfl) C__law_dot.gl C__law_dot.kp C__law_dot.bi .nil pass0 (pa_cons (pv 3) (pa_cons (pv 1) pa_nil))) (pv 4)))) pa_nil)))
      (pss_one (ps_ret (pe_ifExp (pt_cmpR op_lt (pv 2) pe_int (nomark _)) pe_int (pe_ifExp (pt_cmpR (r := rEqD K) (op_eqD hr.units) (pv 2) pe_int (nomark _)) pe_int (pe_un un_neg pe_int)))))), ?_⟩
  refine run_spD h ?_
  rintro ds r ⟨d, R, p, rfl, hR, hl, hd, hp, hq, rfl⟩ b D hD
  refine gs_asg (d := .int (mostM R p)) (de_cb (da_cons (de_is (de_map (xs := R) (enc := prD) (f := fun q => .int (dotM q.1 p - q.2)) (js := [3, 4]) (di_tup (de_var rfl)) (by omega) (by decide) (fun _ _ => dg_pair)
    fun q hm => de_sub (de_call (da_cons (de_var rfl) (da_cons (de_var rfl) da_nil)) ⟨q.1, p, rfl, (hq q hm).2, by rw [(hq q hm).1]; omega, by rw [(hq q hm).1, hp], rfl⟩) (de_var rfl)) (y := .list ((R.map fun q => dotM q.1 p - q.2).map .int)) (by rw [List.map_map]; rfl)) da_nil) (dc_maxI (by simpa using hR))) ?_
  generalize mostM R p = m at hD ⊢
  refine go_ret (d := .int (if m < 0 then 1 else if m = 0 then 0 else -1)) (de_if (b := decide (m < 0)) (dt_test (de_cmp (p := fun i j => decide (i < j)) (de_var rfl) de_int)) (fun h => ?_) fun h => ?_) hD.rt
  · rw [if_pos (of_decide_eq_true h)]
    exact de_int
  · rw [if_neg (of_decide_eq_false h)]
    refine de_if (b := decide (m = 0)) (dt_is (dt_test (de_eq (de_var rfl) de_int rfl rfl)) (by simp only [PyData.eqv]; exact Bool.beq_eq_decide_eq _ _)) (fun h => ?_) fun h => ?_
    · rw [if_pos (of_decide_eq_true h)]
      exact de_int
    · rw [if_neg (of_decide_eq_false h)]
      exact de_neg de_int
end LW

namespace LW
open PySem PySem.Spec PyProof.Rows L2
open Evl (Ex)
variable {P : Program} {w : World} {K : PySem.W.Frag} {mg : Str → Option Value} {base : Heap}

/-! ### in the hull -/
def putAt (Q : List (List Int)) (k : Nat) (p : List Int) : List (List Int) := Q.take k ++ [p] ++ Q.drop (k + 1)
def turnM (d : Nat) (S : List (List Int)) (p : List Int) (lot : List Nat) (k : Nat) : Bool := decide (0 ≤ det (waysM (putAt (lot.map (pt S)) k p) (List.range (d + 1))) * det (waysM S lot))
def goodM (d : Nat) (S : List (List Int)) (p : List Int) (lot : List Nat) : Bool := (List.range (d + 1)).all (turnM d S p lot)
def hullM (d : Nat) (S : List (List Int)) (p : List Int) : Bool := (lots S.length (d + 1)).any fun lot => !PyData.eqv (.int (det (waysM S lot))) (.int 0) && goodM d S p lot
theorem det_small {ws : List (List Int)} (h : (∃ a, ws = [[a]]) ∨ (∃ a b c d, ws = [[a, b], [c, d]]) ∨ ∃ a b c d e f g h i, ws = [[a, b, c], [d, e, f], [g, h, i]]) (hs : ∀ r ∈ ws, ∀ x ∈ r, -100 ≤ x ∧ x ≤ 100) : -(2 ^ 64) < det ws ∧ det ws < 2 ^ 64 := by
  have key : ∀ u v : Int, (-100 ≤ u ∧ u ≤ 100) → (-100 ≤ v ∧ v ≤ 100) → (u * v).natAbs ≤ 10000 := fun u v hu hv => mul_small (m := 100) (n := 100) (by omega) (by omega)
  rcases h with ⟨a, rfl⟩ | ⟨a, b, c, d, rfl⟩ | ⟨a, b, c, d, e, f, g, h, i, rfl⟩
  · have := hs [a] (by simp) a (by simp)
    simp only [det]
    omega
  · have h1 := hs [a, b] (by simp)
    have h2 := hs [c, d] (by simp)
    have k1 := key a d (h1 a (by simp)) (h2 d (by simp))
    have k2 := key b c (h1 b (by simp)) (h2 c (by simp))
    simp only [det]
    omega
  · have h1 := hs [a, b, c] (by simp)
    have h2 := hs [d, e, f] (by simp)
    have h3 := hs [g, h, i] (by simp)
    have ha := h1 a (by simp)
    have hb := h1 b (by simp)
    have hc := h1 c (by simp)
    have hd := h2 d (by simp)
    have he := h2 e (by simp)
    have hf := h2 f (by simp)
    have hg := h3 g (by simp)
    have hh := h3 h (by simp)
    have hi := h3 i (by simp)
    have m1 : (a * (e * i - f * h)).natAbs ≤ 100 * 20000 := mul_small (by omega) (by have := key e i he hi; have := key f h hf hh; omega)
    have m2 : (b * (d * i - f * g)).natAbs ≤ 100 * 20000 := mul_small (by omega) (by have := key d i hd hi; have := key f g hf hg; omega)
    have m3 : (c * (d * h - e * g)).natAbs ≤ 100 * 20000 := mul_small (by omega) (by have := key d h hd hh; have := key e g he hg; omega)
    simp only [det]
    omega
theorem putAt_mem {Q : List (List Int)} {k : Nat} {p q : List Int} (h : q ∈ putAt Q k p) : q = p ∨ q ∈ Q := by
  unfold putAt at h
  rcases List.mem_append.mp h with h | h
  · rcases List.mem_append.mp h with h | h
    · exact .inr (List.mem_of_mem_take h)
    · exact .inl (by simpa using h)
  · exact .inr (List.mem_of_mem_drop h)
theorem putAt_len {Q : List (List Int)} {k : Nat} {p : List Int} (h : k < Q.length) : (putAt Q k p).length = Q.length := by
  unfold putAt
  simp
  omega

abbrev nm__law_in_hull : List Str := ["_law_points", "_law_p", "_law_size", "_law_lot", "_law_whole", "_law_at", "_law_some", "_law_good", "_law_here", "_law_k"]
abbrev st__law_in_hull : Stmt := topS 37
theorem sc__law_in_hull : FnScope nm__law_in_hull ["_law_points", "_law_p"] (defScope st__law_in_hull) := ⟨rfl, rfl, rfl, by decide +kernel, rfl, by decide +kernel, by decide +kernel⟩
def gHull (ds : List PyData) (r : PyData) : Prop := ∃ (d : Nat) (S : List (List Int)) (p : List Int), Shp d S ∧ Near S ∧ p.length = d ∧ (∀ x ∈ p, -21 ≤ x ∧ x ≤ 21) ∧ ds = [tT S, tI p] ∧ r = .bool (hullM d S p)
abbrev gSpan (mk : List (List Int) → PyData) (mk2 : List Int → PyData) (ds : List PyData) (r : PyData) : Prop := ∃ (d : Nat) (S : List (List Int)) (lot : List Nat), ds = [mk S, mk2 (nD lot)] ∧ Pts d S ∧ lot.length = d + 1 ∧ (∀ k ∈ lot, k < S.length) ∧ r = .int (det (waysM S lot))
theorem ok__law_in_hull (T : Txt mg) (C__law_subsets : ∃ f fd, CalAt P w K mg base "_law_subsets" 1 f fd ["_law_many", "_law_size"] (spD gSubs)) (C__law_spanTT : ∃ f fd, CalAt P w K mg base "_law_span" 5 f fd ["_law_points", "_law_lot"] (spD (gSpan tT tI)))
    (C__law_spanLL : ∃ f fd, CalAt P w K mg base "_law_span" 5 f fd ["_law_points", "_law_lot"] (spD (gSpan lT lI)))
    {f : Addr} {fd : FuncData} (F : Stands K mg "_law_in_hull" st__law_in_hull f fd) : CalAt P w K mg base "_law_in_hull" 6 f fd ["_law_points", "_law_p"] (spD gHull) := by
  obtain ⟨_, _, C__law_subsets⟩ := C__law_subsets
  obtain ⟨_, _, C__law_spanTT⟩ := C__law_spanTT
  obtain ⟨_, _, C__law_spanLL⟩ := C__law_spanLL
  refine ⟨F.fn.ok sc__law_in_hull (fun vs H Q E h => spD_len h (by rintro ds r ⟨d, S, p, _, _, _, _, rfl, _⟩; rfl)) (fun cdv A outer s H vs Q E hr h => ?_), F.gl, F.fn.kp, F.fn.binds fun _ _ _ _ _ _ us hl => match us, hl with | [_, _], _ => rfl⟩
  refine ⟨_, (pss_cons (ps_set (i := 2) sc__law_in_hull.nd rfl (Or.inl rfl) (pe_callB (r := rLenD K) call_len_seq (by rfl) T.n_len PySem.boot_len (pa_cons (pv 1) pa_nil)))
      (pss_cons (ps_for PassesOwn.never rfl (pi_list (pe_call C__law_subsets.ok (hr.mono (by first | decide | omega)) (by rfl) C__law_subsets.gl C__law_subsets.kp C__law_subsets.bi .nil pass0 (pa_cons (pe_callB (r := rLenD K) call_len_seq (by rfl) T.n_len PySem.boot_len (pa_cons (pv 0) pa_nil)) (pa_cons (pe_op op_add (pv 2) pe_int) pa_nil)))) (pg_name (i := 3) sc__law_in_hull.nd rfl (Or.inl rfl)) (pss_cons (ps_set (i := 4) sc__law_in_hull.nd rfl (Or.inl rfl) (pe_call C__law_spanTT.ok (hr.mono (by first | decide | omega)) (by rfl) C__law_spanTT.gl C__law_spanTT.kp C__law_spanTT.bi .nil pass0 (pa_cons (pv 0) (pa_cons (pv 3) pa_nil))))
      (pss_one (ps_if (pt_cmpR (r := rNeD K) (op_neD hr.units) (pv 4) pe_int (nomark _)) (pss_cons (ps_par (i := 6) (j := 7) (by rfl) sc__law_in_hull.nd rfl rfl (by decide) rfl rfl (pa_cons (pe_lc (own := [("_law_k", 9)]) (g := (gName 9)) (tt := tYes) rfl sc__law_in_hull.nd (pi_tup (pv 3)) (blkOk_by (N := nm__law_in_hull) (sc := (defScope st__law_in_hull)) (by decide +kernel)) (fun _ _ _ _ _ => (pg_name (i := 9) sc__law_in_hull.nd rfl (Or.inl rfl))) (fun _ _ _ _ _ => pts_nil) (fun _ _ _ _ _ => (pe_ix (r := rIxT K) ix_tup (pv 0) (pv 9) (fun _ _ => rfl)))) (pa_cons pe_bl pa_nil)) (by rfl))
      (pss_cons (ps_for PassesOwn.never rfl (pi_range1 (by rfl) T.n_range (pa_cons (pe_op op_add (pv 2) pe_int) pa_nil)) (pg_name (i := 5) sc__law_in_hull.nd rfl (Or.inl rfl)) (pss_cons (ps_set (i := 8) sc__law_in_hull.nd rfl (Or.inl rfl) (pe_op op_cat (pe_op op_cat (pe_slice (r := rSlL K) sl_list (pv 6) po_none (po_some (pv 5))) (pe_lst (pa_cons (pv 1) pa_nil))) (pe_slice (r := rSlL K) sl_list (pv 6) (po_some (pe_op op_add (pv 5) pe_int)) po_none)))
      (pss_one (ps_set (i := 7) sc__law_in_hull.nd rfl (Or.inl rfl) (pe_and (pv 7) (pe_one (pe_cmpR op_ge (pe_op op_mul (pe_call C__law_spanLL.ok (hr.mono (by first | decide | omega)) (by rfl) C__law_spanLL.gl C__law_spanLL.kp C__law_spanLL.bi .nil pass0 (pa_cons (pv 8) (pa_cons (pe_listRg rfl (by rfl) T.n_list (prg_1 (by rfl) T.n_range (pe_op op_add (pv 2) pe_int))) pa_nil))) (pv 4)) pe_int (nomark _))))))))
      (pss_one (ps_if (pt_val (pv 7)) (pss_one (ps_ret pe_bl)) pss_nil)))) pss_nil))))
      (pss_one (ps_ret pe_bl)))), ?_⟩
  refine run_spD h ?_
  rintro ds r ⟨d, S, p, hS, hN, hp, hx, rfl, rfl⟩ b D hD
  have n2 := hS.n2
  have n12 := hS.n12
  have hd := hS.d1
  have hd3 := hS.d3
  refine gs_asg (d := .int d) (de_is (de_cb (da_cons (de_var rfl) da_nil) (dc_len (.t _))) (by rw [List.length_map, hp])) ?_
  refine gs_forN (xs := lots S.length (d + 1)) (enc := lD) (fun pre => [.dat (tT S), .dat (tI p), .dat (.int d), .any, .any, .any, .any, .any, .any, .any]) (fun pre => pre.any (fun lot => !PyData.eqv (.int (det (waysM S lot))) (.int 0) && goodM d S p lot) = false)
    (di_list (de_call (da_cons (de_cb (da_cons (de_var rfl) da_nil) (dc_len (.t _))) (da_cons (de_add (de_var rfl) de_int) da_nil)) ⟨S.length, d + 1, by rw [List.length_map]; rfl, by omega, by omega, rfl⟩)) (LeE.refl _) rfl (fun pre lot post c e inv h1 h2 => ?_) fun inv => ?_
  · have hl : lot ∈ lots S.length (d + 1) := by rw [e]; simp
    have lk := lots_lt hl
    have ll := (mem_lots.mp hl).2
    refine gs_asg (d := .int (det (waysM S lot))) (de_call (da_cons (de_var rfl) (da_cons (de_var rfl) da_nil)) ⟨d, S, lot, rfl, hS.pts, ll, lk, rfl⟩) ?_
    have next : (!PyData.eqv (.int (det (waysM S lot))) (.int 0) && goodM d S p lot) = false → (pre ++ [lot]).any (fun lot => !PyData.eqv (.int (det (waysM S lot))) (.int 0) && goodM d S p lot) = false := fun h => by
      rw [List.any_append, inv, Bool.false_or, List.any_cons, List.any_nil, Bool.or_false]
      exact h
    refine go_when (dt_test (de_ne (de_var rfl) de_int rfl rfl)) (fun hz => ?_) fun hz => go_turn (next (by rw [hz]; rfl)) (.eq (.eq (.eq (.any (.any (.any (.any (.any (.any (.any .nil))))))))))
    have hw : (lot.map (pt S)).length = d + 1 := by rw [List.length_map, ll]
    refine gs_par (x := lT (lot.map (pt S))) (y := .bool true) (da_cons (de_is (de_map (xs := lot) (enc := fun (k : Nat) => .int (k : Int)) (f := fun k => tI (pt S k)) (js := [9]) (by
        have e1 : (nD lot).map PyData.int = lot.map fun (k : Nat) => PyData.int (k : Int) := by rw [List.map_map]; rfl
        rw [← e1]
        exact di_tup (de_var rfl)) (by omega) (by decide) (fun _ _ => dg_name) fun k hk => de_ixT (de_var rfl) (de_var rfl) (at_pt (lk k hk))) (by rw [lT, List.map_map]; rfl)) (da_cons de_bl da_nil)) ?_
    refine gs_forN (xs := List.range (d + 1)) (enc := fun (k : Nat) => .int (k : Int)) (fun pre2 => [.dat (tT S), .dat (tI p), .dat (.int d), .dat (lD lot), .dat (.int (det (waysM S lot))), .any, .dat (lT (lot.map (pt S))), .dat (.bool (pre2.all (turnM d S p lot))), .any, .any]) (fun _ => True)
      (di_rng1 (n := ((d + 1 : Nat) : Int)) (da_cons (de_is (x := .int ((d : Int) + 1)) (de_add (de_var rfl) de_int) rfl) da_nil) (by omega)) (.eq (.eq (.eq (.eq (.eq (.any (.eq (.eq (.any (.any .nil)))))))))) trivial (fun pre2 k post2 c2 e2 _ _ _ => ?_) fun _ => ?_
    · obtain ⟨ek, hk⟩ := range_at e2
      have hin : ∀ q ∈ putAt (lot.map (pt S)) k p, q.length = d ∧ ∀ x ∈ q, -50 ≤ x ∧ x ≤ 50 := fun q hq => by
        rcases putAt_mem hq with rfl | hq
        · exact ⟨hp, fun x h => by have := hx x h; omega⟩
        · obtain ⟨j, hj, rfl⟩ := List.mem_map.mp hq
          exact ⟨hS.len _ (pt_mem (lk j hj)), hS.box _ (pt_mem (lk j hj))⟩
      have hP : Pts d (putAt (lot.map (pt S)) k p) := ⟨hd, hd3, fun q hq => (hin q hq).1, fun q hq x h => by have := (hin q hq).2 x h; omega⟩
      have hlen : (putAt (lot.map (pt S)) k p).length = d + 1 := by rw [putAt_len (by omega), hw]
      have hrng : ∀ j ∈ List.range (d + 1), j < (putAt (lot.map (pt S)) k p).length := fun j hj => by rw [hlen]; exact List.mem_range.mp hj
      refine gs_asg (d := lT (putAt (lot.map (pt S)) k p)) (de_is (de_catL (de_catL (de_slL (de_var rfl) do_none (do_some (de_var rfl))) (de_lst (da_cons (de_var rfl) da_nil) (by show 1 ≤ _; decide)) ?_) (de_slL (de_var rfl) (do_some (de_add (de_var rfl) de_int)) do_none) ?_) ?_) ?_
      · rw [cutD_to]
        simp
        omega
      · have e1 : ((k : Int) + 1) = ((k + 1 : Nat) : Int) := by omega
        rw [cutD_to, e1, cutD_from]
        simp
        omega
      · have e1 : ((k : Int) + 1) = ((k + 1 : Nat) : Int) := by omega
        rw [cutD_to, e1, cutD_from]
        unfold putAt lT
        simp
      · refine go_asg (d := .bool ((pre2 ++ [k]).all (turnM d S p lot))) (de_is (de_andV (b := turnM d S p lot k) (de_var rfl) fun _ => de_cmp (p := fun i j => decide (j ≤ i)) (de_mul (de_call (r := .int (det (waysM (putAt (lot.map (pt S)) k p) (List.range (d + 1))))) (da_cons (de_var rfl) (da_cons (de_listRg (n := ((d + 1 : Nat) : Int)) (de_is (x := .int ((d : Int) + 1)) (de_add (de_var rfl) de_int) rfl) (by omega)) da_nil))
          ⟨d, _, List.range (d + 1), ?_, hP, by rw [List.length_range], hrng, rfl⟩) (de_var rfl) (.inl ?_)) de_int) ?_) (go_turn trivial (.eq (.eq (.eq (.eq (.eq (.any (.eq (.eq (.any (.any .nil)))))))))))
        · rw [Int.toNat_natCast]
          simp [lI, nD, Function.comp_def]
        · have wl : (waysM (putAt (lot.map (pt S)) k p) (List.range (d + 1))).length = d := by rw [ways_len, List.length_range]; rfl
          refine det_small (sq_rows hd hd3 wl fun r hr => (pts_row hP hrng hr).1) fun r hr x hxr => ?_
          obtain ⟨j, hj, rfl⟩ := List.mem_map.mp hr
          obtain ⟨u, v, hu, hv, rfl⟩ := zipWith_mem hxr
          have b1 := (hin _ (pt_mem (hrng j (List.mem_of_mem_drop hj)))).2 u hu
          have b2 := (hin _ (pt_mem (hrng ((List.range (d + 1)).headD 0) (head_mem (by simp))))).2 v hv
          omega
        · rw [List.all_append, List.all_cons, List.all_nil, Bool.and_true]
    · refine go_when (c := goodM d S p lot) (dt_val (de_var rfl)) (fun hg => ?_) fun hg => go_turn (next (by rw [hg, Bool.and_false])) (.eq (.eq (.eq (.any (.any (.any (.any (.any (.any (.any .nil))))))))))
      refine go_ret (d := .bool true) de_bl fun v B' H' hw' dv => hD.rt v B' H' (by rw [← h1, ← h2]; exact hw') ?_
      have : hullM d S p = true := List.any_eq_true.mpr ⟨lot, hl, by rw [hz, hg]; rfl⟩
      rw [this]
      exact dv
  · refine go_ret (d := .bool (hullM d S p)) (de_is de_bl ?_) hD.rt
    rw [hullM, inv]
end LW

namespace LW
open PySem PySem.Spec PyProof.Rows L2
open Evl (Ex)
variable {P : Program} {w : World} {K : PySem.W.Frag} {mg : Str → Option Value} {base : Heap}

section
variable {b : Bs} {env : EnvT} {te : TE} {u : TS} {D : Ends} {d : PyData}
/-- size, found = (e, []) -/
theorem go_parL {i j : Nat} (h : DE te env d) (k : ∀ a, a ∉ owned env → Go b ((env.set i (.dat d)).set j (.own a (lstP []))) D.nx) : Go b env (tPar i j (tCons te (tCons (tLst tNil) tNil)) D) := fun σ H ⟨B, e1, w1, o, f⟩ =>
  h B σ H _ w1.i o fun v B' H' w2 d' => ⟨Nat.zero_le _, fun p hp => by
    have w3 := Wd.side (o := .lst []) w2.i hp
    have np : p ∉ owned env := fun hm => by
      obtain ⟨_, z, hz⟩ := (o.wd w2).own_at hm
      rw [hp] at hz
      cases hz
    refine ⟨v, .ref p, rfl, k p np _ _ ⟨B', e1.trans w2.b, (w1.trans w2).trans w3, ((o.wd w2).wd w3 |>.setD d').set ⟨rfl, w2.i.back hp, ⟨_, upd_same, [], rfl, .nil⟩, lstP.mon []⟩ fun a ha => ?_, fun a ha => ?_⟩⟩
    · have e : a = p := by simpa [ownerOf] using ha
      subst e
      left
      intro hm
      rcases owned_set_mem hm with z | z
      · cases z
      · exact np z
    · rcases owned_set_mem ha with z | z
      · have e : a = p := by simpa [ownerOf] using z
        subst e
        exact (w1.trans w2).h.back hp
      · rcases owned_set_mem z with z | z
        · cases z
        · exact f a z⟩
theorem gs_parL {i j : Nat} (h : DE te env d) (k : ∀ a, a ∉ owned env → Go b ((env.set i (.dat d)).set j (.own a (lstP []))) (u D)) : Go b env (tSeq (tPar i j (tCons te (tCons (tLst tNil) tNil))) u D) := go_parL (D := { D with nx := u D }) h k
end

theorem pi_listK {X : Cx} {K : PySem.W.Frag} {tg l : Expr} {tl : TE} (hK : X.K = K) (hl : PE X l tl) : PI X tg l (iList K tl) := by
  subst hK
  exact pi_list hl
theorem pi_tupK {X : Cx} {K : PySem.W.Frag} {tg l : Expr} {tl : TE} (hK : X.K = K) (hl : PE X l tl) : PI X tg l (iTup K tl) := by
  subst hK
  exact pi_tup hl

/-! ### the law's facets -/
def oneM (d : Nat) (ws : List (List Int)) (k : Nat) : Int := ldet (d - 1) (ws.map fun r => r.take k ++ r.drop (k + 1)) * (if (PyData.eqv (.int ((k : Int) % 2)) (.int 0)) = true then 1 else -1)
def wayM (side : Int) (a : List Int) : List Int := a.map fun x => side * x / (gcdL a : Int)
noncomputable def sideM (S : List (List Int)) (a : List Int) (lot : List Nat) (ps : List FP) (side : Int) : List FP :=
  if mxI (S.map (dotM (wayM side a))) = dotM (wayM side a) (pt S (lot.headD 0)) ∧ (wayM side a, dotM (wayM side a) (pt S (lot.headD 0))) ∉ ps then ps ++ [(wayM side a, dotM (wayM side a) (pt S (lot.headD 0)))] else ps
def sidesL (a : List Int) : List Int := if 0 < gcdL a then [1, -1] else []
noncomputable def lawStep (d : Nat) (S : List (List Int)) (ps : List FP) (lot : List Nat) : List FP := (sidesL (normalM d (waysM S lot))).foldl (sideM S (normalM d (waysM S lot)) lot) ps
noncomputable def lawFs (d : Nat) (S : List (List Int)) (ls : List (List Nat)) : List FP := ls.foldl (lawStep d S) []
noncomputable def lawFacets (d : Nat) (S : List (List Int)) : List FP := (lawFs d S (lots S.length d)).mergeSort (leD prD)
theorem sideM_len {S : List (List Int)} {a : List Int} {lot : List Nat} {ps : List FP} {side : Int} : (sideM S a lot ps side).length ≤ ps.length + 1 := by
  unfold sideM
  split <;> simp
theorem fold_side_len {S : List (List Int)} {a : List Int} {lot : List Nat} : ∀ (l : List Int) (ps : List FP), (l.foldl (sideM S a lot) ps).length ≤ ps.length + l.length
  | [], ps => by simp
  | x :: l, ps => by
    rw [List.foldl_cons, List.length_cons]
    have h1 := fold_side_len (S := S) (a := a) (lot := lot) l (sideM S a lot ps x)
    have h2 := sideM_len (S := S) (a := a) (lot := lot) (ps := ps) (side := x)
    omega
theorem sidesL_len (a : List Int) : (sidesL a).length ≤ 2 := by
  unfold sidesL
  split <;> simp
theorem lawFs_snoc {d : Nat} {S : List (List Int)} (ls : List (List Nat)) (l : List Nat) : lawFs d S (ls ++ [l]) = lawStep d S (lawFs d S ls) l := by
  unfold lawFs
  rw [List.foldl_append]
  rfl
theorem lawFs_len {d : Nat} {S : List (List Int)} (ls : List (List Nat)) : (lawFs d S ls).length ≤ 2 * ls.length := by
  refine snoc_ind (p := fun ls => (lawFs d S ls).length ≤ 2 * ls.length) (Nat.le_refl _) (fun l x ih => ?_) ls
  rw [lawFs_snoc, List.length_append, List.length_singleton]
  have h1 := fold_side_len (S := S) (a := normalM d (waysM S x)) (lot := x) (sidesL (normalM d (waysM S x))) (lawFs d S l)
  have h2 := sidesL_len (normalM d (waysM S x))
  unfold lawStep
  omega
theorem wayM_small {n : Nat} {side : Int} (hs : side = 1 ∨ side = -1) (a : List Int) (h : ∀ x ∈ a, x.natAbs < n) : ∀ x ∈ wayM side a, x.natAbs < n := by
  intro x hx
  obtain ⟨y, hy, rfl⟩ := List.mem_map.mp hx
  have dv : (gcdL a : Int) ∣ side * y := Int.dvd_trans (gcdL_dvd a y hy) (Int.dvd_mul_left _ _)
  rw [Int.natAbs_ediv_of_dvd dv]
  refine Nat.lt_of_le_of_lt (Nat.div_le_self _ _) ?_
  have : (side * y).natAbs = y.natAbs := by rcases hs with rfl | rfl <;> omega
  rw [this]
  exact h y hy
theorem oneM_normal {d : Nat} {ws : List (List Int)} (h : (d = 1 ∧ ws = []) ∨ (d = 2 ∧ ∃ p q, ws = [[p, q]]) ∨ (d = 3 ∧ ∃ a b c e f g, ws = [[a, b, c], [e, f, g]])) : (List.range d).map (oneM d ws) = normalM d ws := by
  rcases h with ⟨rfl, rfl⟩ | ⟨rfl, p, q, rfl⟩ | ⟨rfl, a, b, c, e, f, g, rfl⟩
  · simp [oneM, normalM, ldet, PyData.eqv]
  · simp [oneM, normalM, ldet, PyData.eqv, List.range_succ, sumT, sgn, pt]
  · simp [oneM, normalM, ldet, PyData.eqv, List.range_succ, sumT, sgn, pt, restM]
    grind
theorem foldl_at {α β : Type} (f : β → α → β) (b : β) (l : List α) (x : α) : (l ++ [x]).foldl f b = f (l.foldl f b) x := by
  rw [List.foldl_append]
  rfl
theorem any_prD (l : List FP) (x : FP) : ((l.map prD).any fun z => PyData.eqv z (prD x)) = decide (x ∈ l) := by
  rw [any_eqv (enc := prD) eqv_prD l x]
  congr

abbrev nm__law_facets : List Str := ["_law_points", "_law_lot", "_law_size", "_law_found", "_law_ways_here", "_law_a", "_law_k", "_law_common", "_law_x", "_law_side", "_law_rows", "_law_way", "_law_b", "_law_p"]
abbrev st__law_facets : Stmt := topS 39
theorem sc__law_facets : FnScope nm__law_facets ["_law_points"] (defScope st__law_facets) := ⟨rfl, rfl, rfl, by decide +kernel, rfl, by decide +kernel, by decide +kernel⟩
abbrev cmp__law_facets : Scope := scpS (subS (subS ((defBody st__law_facets).getD 1 (.Pass ⟨0, 0, 0, 0⟩)) 2) 0)
def gLawF (ds : List PyData) (r : PyData) : Prop := ∃ d S, Shp d S ∧ ds = [tT S] ∧ r = .list ((lawFacets d S).map prD)
theorem ok__law_facets (T : Txt mg) (C__law_subsets : ∃ f fd, CalAt P w K mg base "_law_subsets" 1 f fd ["_law_many", "_law_size"] (spD gSubs))
    (C__law_waysTT : ∃ f fd, CalAt P w K mg base "_law_ways" 1 f fd ["_law_points", "_law_lot"] (spD fun ds r => ∃ (d : Nat) (S : List (List Int)) (lot : List Nat), ds = [tT S, tI (nD lot)] ∧ lot ≠ [] ∧ lot.length ≤ 100 ∧ (∀ k ∈ lot, k < S.length) ∧ (∀ p ∈ S, p.length = d) ∧ d ≤ 100 ∧ r = lL (waysM S lot)))
    (C__law_determinant : ∃ f fd, CalAt P w K mg base "_law_determinant" 4 f fd ["_law_rows"] (spD fun ds r => ∃ n, gLdet n ds r)) (C__law_gcd : ∃ f fd, CalAt P w K mg base "_law_gcd" 1 f fd ["_law_one", "_law_other"] (spD gGcd))
    (C__law_dot : ∃ f fd, CalAt P w K mg base "_law_dot" 1 f fd ["_law_one", "_law_other"] (spD fun ds r => ∃ a b : List Int, ds = [tI a, tI b] ∧ Sm a ∧ a.length ≤ 100 ∧ a.length = b.length ∧ r = .int (dotM a b)))
    {f : Addr} {fd : FuncData} (F : Stands K mg "_law_facets" st__law_facets f fd) : CalAt P w K mg base "_law_facets" 5 f fd ["_law_points"] (spD gLawF) := by
  obtain ⟨_, _, C__law_subsets⟩ := C__law_subsets
  obtain ⟨_, _, C__law_waysTT⟩ := C__law_waysTT
  obtain ⟨_, _, C__law_determinant⟩ := C__law_determinant
  obtain ⟨_, _, C__law_gcd⟩ := C__law_gcd
  obtain ⟨_, _, C__law_dot⟩ := C__law_dot
  refine ⟨F.fn.ok sc__law_facets (fun vs H Q E h => spD_len h (by rintro ds r ⟨d, S, _, rfl, _⟩; rfl)) (fun cdv A outer s H vs Q E hr h => ?_), F.gl, F.fn.kp, F.fn.binds fun _ _ _ _ _ _ us hl => match us, hl with | [_], _ => rfl⟩
  refine ⟨_, (pss_cons (ps_par (i := 2) (j := 3) (by rfl) sc__law_facets.nd rfl rfl (by decide) rfl rfl (pa_cons (pe_callB (r := rLenD K) call_len_seq (by rfl) T.n_len PySem.boot_len (pa_cons (pe_ix (r := rIxT K) ix_tup (pv 0) pe_int (fun _ _ => rfl)) pa_nil)) (pa_cons (pe_lst pa_nil) pa_nil)) (by rfl))
      (pss_cons (ps_for PassesOwn.never rfl (pi_list (pe_call C__law_subsets.ok (hr.mono (by first | decide | omega)) (by rfl) C__law_subsets.gl C__law_subsets.kp C__law_subsets.bi .nil pass0 (pa_cons (pe_callB (r := rLenD K) call_len_seq (by rfl) T.n_len PySem.boot_len (pa_cons (pv 0) pa_nil)) (pa_cons (pv 2) pa_nil)))) (pg_name (i := 1) sc__law_facets.nd rfl (Or.inl rfl)) (pss_cons (ps_set (i := 4) sc__law_facets.nd rfl (Or.inl rfl) (pe_call C__law_waysTT.ok (hr.mono (by first | decide | omega)) (by rfl) C__law_waysTT.gl C__law_waysTT.kp C__law_waysTT.bi .nil pass0 (pa_cons (pv 0) (pa_cons (pv 1) pa_nil))))
      (pss_cons (ps_set (i := 5) sc__law_facets.nd rfl (Or.inl rfl) (pe_lst pa_nil))
      (pss_cons (ps_for PassesOwn.never rfl (pi_range1 (by rfl) T.n_range (pa_cons (pv 2) pa_nil)) (pg_name (i := 6) sc__law_facets.nd rfl (Or.inr rfl)) (pss_cons (ps_setLc (i := 10) (own := [("_law_way", 11)]) (g := (gName 11)) (tt := tYes) rfl sc__law_facets.nd rfl rfl (sw_true rfl rfl rfl (by decide +kernel)) (pi_list (pv 4)) (blkOk_by (N := nm__law_facets) (sc := (defScope st__law_facets)) (by decide +kernel)) (fun _ _ _ _ _ => (pg_name (i := 11) sc__law_facets.nd rfl (Or.inl rfl))) (fun _ _ _ _ _ => pts_nil) (fun _ _ _ _ _ => (pe_lc (own := [("_law_x", 8)]) (g := (gName 8)) (tt := tYes) rfl sc__law_facets.nd (pi_listK (K := K) rfl (pe_op op_cat (pe_slice (r := rSlL K) sl_list (pv 11) po_none (po_some (pv 6))) (pe_slice (r := rSlL K) sl_list (pv 11) (po_some (pe_op op_add (pv 6) pe_int)) po_none))) (blkOk_by (N := nm__law_facets) (sc := (relS cmp__law_facets (defScope st__law_facets))) (by decide +kernel)) (fun _ _ _ _ _ => (pg_name (i := 8) sc__law_facets.nd rfl (Or.inl rfl))) (fun _ _ _ _ _ => pts_nil) (fun _ _ _ _ _ => (pv 8)))))
      (pss_one (ps_expr (pe_bm PySem.F.plainAttrs_list PySem.F.slot_list_append PySem.F.type_list_append mt_append (pv 5) (pa_cons (pe_op op_mul (pe_call C__law_determinant.ok (hr.mono (by first | decide | omega)) (by rfl) C__law_determinant.gl C__law_determinant.kp C__law_determinant.bi .nil pass0 (pa_cons (pv 10) pa_nil)) (pe_ifExp (pt_cmpR (r := rEqD K) (op_eqD hr.units) (pe_op op_mod (pe_callTy call_int1 (by rfl) T.n_int (by decide +kernel) (pa_cons (pv 6) pa_nil)) pe_int) pe_int (nomark _)) pe_int (pe_un un_neg pe_int))) pa_nil))))))
      (pss_cons (ps_set (i := 7) sc__law_facets.nd rfl (Or.inr rfl) pe_int)
      (pss_cons (ps_for PassesOwn.never rfl (pi_list (pv 5)) (pg_name (i := 8) sc__law_facets.nd rfl (Or.inl rfl)) (pss_one (ps_set (i := 7) sc__law_facets.nd rfl (Or.inr rfl) (pe_call C__law_gcd.ok (hr.mono (by first | decide | omega)) (by rfl) C__law_gcd.gl C__law_gcd.kp C__law_gcd.bi .nil pass0 (pa_cons (pv 7) (pa_cons (pv 8) pa_nil))))))
      (pss_one (ps_for PassesOwn.never rfl (pi_list (pe_ifExp (pt_cmpR op_gt (pv 7) pe_int (nomark _)) (pe_lst (pa_cons pe_int (pa_cons (pe_un un_neg pe_int) pa_nil))) (pe_lst pa_nil))) (pg_name (i := 9) sc__law_facets.nd rfl (Or.inr rfl)) (pss_cons (ps_set (i := 11) sc__law_facets.nd rfl (Or.inr rfl) (pe_callTy (r := rTupD K) call_tuple_of (by rfl) T.n_tuple (by decide +kernel) (pa_cons (pe_lc (own := [("_law_x", 8)]) (g := (gName 8)) (tt := tYes) rfl sc__law_facets.nd (pi_list (pv 5)) (blkOk_by (N := nm__law_facets) (sc := (defScope st__law_facets)) (by decide +kernel)) (fun _ _ _ _ _ => (pg_name (i := 8) sc__law_facets.nd rfl (Or.inl rfl))) (fun _ _ _ _ _ => pts_nil) (fun _ _ _ _ _ => (pe_op op_fdivW (pe_op op_mul (pv 9) (pv 8)) (pv 7)))) pa_nil)))
      (pss_cons (ps_set (i := 12) sc__law_facets.nd rfl (Or.inl rfl) (pe_call C__law_dot.ok (hr.mono (by first | decide | omega)) (by rfl) C__law_dot.gl C__law_dot.kp C__law_dot.bi .nil pass0 (pa_cons (pv 11) (pa_cons (pe_ix (r := rIxT K) ix_tup (pv 0) (pe_ix (r := rIxT K) ix_tup (pv 1) pe_int (fun _ _ => rfl)) (fun _ _ => rfl)) pa_nil))))
      (pss_one (ps_if (PW.pt (pw_and (pt_cmpR (r := rEqD K) (op_eqD hr.units) (pe_callB (r := rMax K) (cr_max rfl) (by rfl) T.n_max (by decide +kernel) (pa_cons (pe_lc (own := [("_law_p", 13)]) (g := (gName 13)) (tt := tYes) rfl sc__law_facets.nd (pi_tup (pv 0)) (blkOk_by (N := nm__law_facets) (sc := (defScope st__law_facets)) (by decide +kernel)) (fun _ _ _ _ _ => (pg_name (i := 13) sc__law_facets.nd rfl (Or.inl rfl))) (fun _ _ _ _ _ => pts_nil) (fun _ _ _ _ _ => (pe_call C__law_dot.ok (hr.mono (by first | decide | omega)) (by rfl) C__law_dot.gl C__law_dot.kp C__law_dot.bi .nil pass0 (pa_cons (pv 11) (pa_cons (pv 13) pa_nil))))) pa_nil)) (pv 12) (nomark _)) (pw_and1 (pt_cmpR (r := rNotInD K) (op_notInD (Room.u65 hr)) (pe_tup (pa_cons (pv 11) (pa_cons (pv 12) pa_nil))) (pv 3) (by rfl))))) (pss_one (ps_expr (pe_bm PySem.F.plainAttrs_list PySem.F.slot_list_append PySem.F.type_list_append mt_append (pv 3) (pa_cons (pe_tup (pa_cons (pv 11) (pa_cons (pv 12) pa_nil))) pa_nil)))) pss_nil))))))))))))
      (pss_one (ps_ret (pe_callB (r := rSortD K) (cr_sortedD rfl (Room.u65 hr)) (by rfl) T.n_sorted (by decide +kernel) (pa_cons (pv 3) pa_nil)))))), ?_⟩
  refine run_spD h ?_
  rintro ds r ⟨d, S, hS, rfl, rfl⟩ b D hD
  have n2 := hS.n2
  have n12 := hS.n12
  have p0 : (pt S 0).length = d := hS.len _ (pt_mem (by omega))
  have hd := hS.d1
  have hd3 := hS.d3
  refine gs_parL (d := .int d) (de_is (de_cb (da_cons (de_ixT (de_var rfl) de_int (at_pt0 (k := 0) rfl (by omega))) da_nil) (dc_len (.t _))) (by rw [List.length_map, p0])) fun fa na => ?_
  refine gs_forN (xs := lots S.length d) (enc := lD) (fun pre => [.dat (tT S), .any, .dat (.int d), .own fa (lstP ((lawFs d S pre).map prD)), .any, .any, .any, .any, .any, .any, .any, .any, .any, .any]) (fun _ => True)
    (di_list (de_call (da_cons (de_cb (da_cons (de_var rfl) da_nil) (dc_len (.t _))) (da_cons (de_var rfl) da_nil)) ⟨S.length, d, by rw [List.length_map], by omega, by omega, rfl⟩)) (LeE.refl _) trivial (fun pre l post c e _ h1 h2 => ?_) fun _ => ?_
  · have hl : l ∈ lots S.length d := by rw [e]; simp
    have lk := lots_lt hl
    have ll := (mem_lots.mp hl).2
    have ln : l ≠ [] := by intro z; rw [z] at ll; simp at ll; omega
    have wl : (waysM S l).length = d - 1 := by rw [ways_len, ll]
    have wr := fun r hr => ways_row hS lk (r := r) hr
    have hsh := fl_rows hd hd3 (ws := waysM S l) wl fun r hr => (wr r hr).1
    have hn := normal_small hsh fun r hr => (wr r hr).2
    have lpre : (lawFs d S pre).length ≤ 8192 := by
      have h1 := lawFs_len (d := d) (S := S) pre
      have h2 := congrArg List.length e
      have h3 := lots_len (n := S.length) (s := d) (by omega)
      rw [List.length_append, List.length_cons] at h2
      omega
    have hnm := oneM_normal hsh
    have nx : lawFs d S (pre ++ [l]) = lawStep d S (lawFs d S pre) l := lawFs_snoc pre l
    rw [nx]
    unfold lawStep
    refine gs_asg (d := lL (waysM S l)) (de_call (da_cons (de_var rfl) (da_cons (de_var rfl) da_nil)) ⟨d, S, l, rfl, ln, by omega, lk, hS.len, by omega, rfl⟩) ?_
    refine gs_newL fun aa nb => ?_
    refine gs_forN (xs := List.range d) (enc := fun (k : Nat) => .int (k : Int)) (fun pre2 => [.dat (tT S), .dat (lD l), .dat (.int d), .own fa (lstP ((lawFs d S pre).map prD)), .dat (lL (waysM S l)), .own aa (lstP (((List.range pre2.length).map (oneM d (waysM S l))).map .int)), .any, .any, .any, .any, .any, .any, .any, .any]) (fun _ => True)
      (di_rng1 (n := (d : Int)) (da_cons (de_var rfl) da_nil) (by omega)) (.eq (.eq (.eq (.eq (.eq (.eq (.any (.any (.any (.any (.any (.any (.any (.any .nil)))))))))))))) trivial (fun pre2 k post2 c2 e2 _ _ _ => ?_) fun _ => ?_
    · obtain ⟨ek, hk⟩ := range_at e2
      have mrow : ∀ r ∈ (waysM S l).map (fun r => r.take k ++ r.drop (k + 1)), r.length = d - 1 ∧ Sm r := fun r hr => by
        obtain ⟨q, hq, rfl⟩ := List.mem_map.mp hr
        have z := wr q hq
        refine ⟨?_, fun x hx => ?_⟩
        · rw [List.length_append, List.length_take, List.length_drop, z.1]
          omega
        · have : -100 ≤ x ∧ x ≤ 100 := by
            rcases List.mem_append.mp hx with hx | hx
            · exact z.2 x (List.mem_of_mem_take hx)
            · exact z.2 x (List.mem_of_mem_drop hx)
          omega
      refine gs_asg (d := lL ((waysM S l).map fun r => r.take k ++ r.drop (k + 1))) (de_is (de_map (xs := waysM S l) (enc := lI) (f := fun r => lI (r.take k ++ r.drop (k + 1))) (js := [11]) (di_list (de_var rfl)) (by omega) (by decide) (fun _ _ => dg_name)
        fun r hr => de_is (de_map (xs := r.take k ++ r.drop (k + 1)) (enc := .int) (f := .int) (js := [8]) (by
          have e1 : ((k : Int) + 1) = ((k + 1 : Nat) : Int) := by omega
          have e3 : cutD (r.map PyData.int) none (some (k : Int)) ++ cutD (r.map PyData.int) (some ((k : Int) + 1)) none = (r.take k ++ r.drop (k + 1)).map PyData.int := by
            rw [e1, cutD_to, cutD_from, List.map_append, List.map_take, List.map_drop]
          rw [← e3]
          refine di_list (de_catL (de_slL (ds := r.map .int) (de_var rfl) do_none (do_some (de_var rfl))) (de_slL (ds := r.map .int) (de_var rfl) (do_some (de_add (de_var rfl) de_int)) do_none) ?_)
          have := (wr r hr).1
          rw [e1, cutD_to, cutD_from]
          simp
          omega) (by
            have := (wr r hr).1
            rw [List.length_append, List.length_take, List.length_drop]
            omega) (by decide) (fun _ _ => dg_name) fun x hx => de_var rfl) rfl) (by rw [lL, List.map_map]; rfl)) ?_
      refine go_app (d := .int (oneM d (waysM S l) k)) rfl (de_is (de_mul (i := ldet (d - 1) ((waysM S l).map fun r => r.take k ++ r.drop (k + 1))) (j := if (PyData.eqv (.int ((k : Int) % 2)) (.int 0)) = true then 1 else -1) (de_call (da_cons (de_var rfl) da_nil) ⟨d - 1, _, rfl, by rw [List.length_map, wl], by omega, mrow, rfl⟩)
        (de_if (dt_test (de_eq (de_mod (de_cb (da_cons (de_var rfl) da_nil) dc_int) de_int (by decide)) de_int rfl rfl)) (fun z => by rw [if_pos z]; exact de_int) fun z => by rw [z, if_neg (by decide)]; exact de_neg de_int) (.inr (by split <;> decide))) rfl) (by simp; omega) ?_
      refine go_turn trivial ?_
      have e3 : ((List.range (pre2 ++ [k]).length).map (oneM d (waysM S l))).map PyData.int = ((List.range pre2.length).map (oneM d (waysM S l))).map PyData.int ++ [.int (oneM d (waysM S l) k)] := by
        rw [List.length_append, List.length_singleton, List.range_succ, ek]
        simp
      rw [e3]
      exact .eq (.eq (.eq (.eq (.eq (.eq (.any (.any (.any (.any (.any (.any (.any (.any .nil)))))))))))))
    · rw [List.length_range, hnm]
      refine go_frz (i := 5) rfl ?_
      generalize normalM d (waysM S l) = a at hn ⊢
      have gl : gcdL a < 100000 := gcdL_lt (by decide) a hn.2
      refine gs_asg (d := .int 0) de_int ?_
      refine gs_forN (xs := a) (enc := .int) (fun pre3 => [.dat (tT S), .dat (lD l), .dat (.int d), .own fa (lstP ((lawFs d S pre).map prD)), .any, .dat (.list (a.map .int)), .any, .dat (.int (gcdL pre3)), .any, .any, .any, .any, .any, .any]) (fun _ => True)
        (di_list (de_var rfl)) (.eq (.eq (.eq (.eq (.any (.eq (.any (.eq (.any (.any (.any (.any (.any (.any .nil)))))))))))))) trivial (fun pre3 v post3 c3 e3 _ _ _ => ?_) fun _ => ?_
      · refine go_asg (d := .int (gcdL (pre3 ++ [v]))) (de_call (da_cons (de_var rfl) (da_cons (de_var rfl) da_nil)) ⟨_, _, rfl, by rw [gcdL_snoc]⟩) (go_turn trivial (.eq (.eq (.eq (.eq (.any (.eq (.any (.eq (.any (.any (.any (.any (.any (.any .nil)))))))))))))))
      · refine go_forN (xs := sidesL a) (enc := .int) (fun pre3 => [.dat (tT S), .dat (lD l), .dat (.int d), .own fa (lstP ((pre3.foldl (sideM S a l) (lawFs d S pre)).map prD)), .any, .dat (.list (a.map .int)), .any, .dat (.int (gcdL a)), .any, .any, .any, .any, .any, .any]) (fun _ => True)
          (di_list (de_if (b := decide (0 < gcdL a)) (dt_is (dt_test (de_cmp (p := fun i j => decide (j < i)) (de_var rfl) de_int)) (dec_len 0 (gcdL a))) (fun h => ?_) fun h => ?_)) (LeE.refl _) trivial (fun pre3 side post3 c3 e3 _ _ _ => ?_) fun _ => go_turn trivial (.eq (.any (.eq (.eq (.any (.any (.any (.any (.any (.any (.any (.any (.any (.any .nil))))))))))))))
        · unfold sidesL
          rw [if_pos (of_decide_eq_true h)]
          exact de_lst (da_cons de_int (da_cons (de_neg de_int) da_nil)) (by show 2 ≤ _; decide)
        · unfold sidesL
          rw [if_neg (of_decide_eq_false h)]
          exact de_lst da_nil (by decide)
        · have hside : side ∈ sidesL a := by rw [e3]; simp
          have g0 : 0 < gcdL a := by
            unfold sidesL at hside
            split at hside
            · assumption
            · cases hside
          have s1 : side = 1 ∨ side = -1 := by
            unfold sidesL at hside
            rw [if_pos g0] at hside
            simpa using hside
          rw [foldl_at]
          have lps : (pre3.foldl (sideM S a l) (lawFs d S pre)).length ≤ 8194 := by
            have q1 := fold_side_len (S := S) (a := a) (lot := l) pre3 (lawFs d S pre)
            have q2 := congrArg List.length e3
            have q3 := sidesL_len a
            rw [List.length_append, List.length_cons] at q2
            omega
          generalize pre3.foldl (sideM S a l) (lawFs d S pre) = ps at lps ⊢
          have wsm := wayM_small s1 a hn.2
          have wlen : (wayM side a).length = d := by unfold wayM; rw [List.length_map, hn.1]
          refine gs_asg (d := tI (wayM side a)) (de_cb (da_cons (de_is (de_map (xs := a) (enc := .int) (f := fun x => .int (side * x / (gcdL a : Int))) (js := [8]) (di_list (de_var rfl)) (by omega) (by decide) (fun _ _ => dg_name)
            fun x hx => de_div (de_mul (de_var rfl) (de_var rfl) (.inl (by omega))) (de_var rfl) (wide_div (b := 64) (by omega) (by simp; omega) (by decide) (by decide))) (y := .list ((wayM side a).map .int)) (by unfold wayM; rw [List.map_map]; rfl)) da_nil) (dc_tuple (.l _))) ?_
          unfold sideM
          generalize wayM side a = wy at wsm wlen ⊢
          have wsm' : Sm wy := fun x hx => by have := wsm x hx; omega
          have lk0 := lk _ (head_mem ln)
          refine gs_asg (d := .int (dotM wy (pt S (l.headD 0)))) (de_call (da_cons (de_var rfl) (da_cons (de_ixT (de_var rfl) (de_ixT (de_var rfl) de_int (head_at ln)) (at_pt lk0)) da_nil)) ⟨wy, pt S (l.headD 0), rfl, wsm', by omega, by rw [wlen, hS.len _ (pt_mem lk0)], rfl⟩) ?_
          generalize dotM wy (pt S (l.headD 0)) = bb
          have hne : S.map (dotM wy) ≠ [] := by
            obtain ⟨p, T, rfl⟩ := hS.ne
            simp
          have hpair : ∀ {env : EnvT}, env[11]? = some (.dat (tI wy)) → env[12]? = some (.dat (.int bb)) → DE (tTup (tCons (tVar 11) (tCons (tVar 12) tNil))) env (prD (wy, bb)) := fun h11 h12 => de_tup (da_cons (de_var h11) (da_cons (de_var h12) da_nil)) (by show 2 ≤ _; decide)
          refine go_when (dt_and (dt_test (de_eq (de_cb (da_cons (de_is (de_map (xs := S) (enc := tI) (f := fun p => .int (dotM wy p)) (js := [13]) (di_tup (de_var rfl)) (by omega) (by decide) (fun _ _ => dg_name)
            fun p hp => de_call (da_cons (de_var rfl) (da_cons (de_var rfl) da_nil)) ⟨wy, p, rfl, wsm', by omega, by rw [wlen, hS.len p hp], rfl⟩) (y := .list ((S.map (dotM wy)).map .int)) (by rw [List.map_map]; rfl)) da_nil) (dc_maxI hne)) (de_var rfl) rfl rfl))
            fun _ => dt_frz (i := 3) rfl (dt_test (de_notIn (hpair rfl rfl) (de_var rfl) (shaped_prD _) (shaped_list lay_prD fun a => Nat.le_trans (depth_prD a) (by decide))))) (fun hc => ?_) fun hc => ?_
          · rw [any_prD] at hc
            have hc2 : mxI (S.map (dotM wy)) = bb ∧ (wy, bb) ∉ ps := by simpa [PyData.eqv] using hc
            rw [if_pos hc2]
            refine go_app (d := prD (wy, bb)) rfl (hpair rfl rfl) (by rw [List.length_map]; omega) (go_turn trivial ?_)
            rw [List.map_append]
            exact .eq (.eq (.eq (.eq (.any (.eq (.any (.eq (.any (.any (.any (.any (.any (.any .nil)))))))))))))
          · rw [any_prD] at hc
            have hc2 : ¬ (mxI (S.map (dotM wy)) = bb ∧ (wy, bb) ∉ ps) := by
              rintro ⟨q1, q2⟩
              simp [PyData.eqv, q1, q2] at hc
            rw [if_neg hc2]
            exact go_turn trivial (.eq (.eq (.eq (.eq (.any (.eq (.any (.eq (.any (.any (.any (.any (.any (.any .nil))))))))))))))
  · refine go_frz (i := 3) rfl ?_
    refine go_ret (d := .list ((lawFacets d S).map prD)) (de_cb (da_cons (de_var rfl) da_nil) (dc_sorted alike_prD (sortable_pos (enc := fun p : FP => [tI p.1, .int p.2]) fun _ _ h => by cases h) fun p _ => Nat.le_trans (depth_prD p) (by decide))) hD.rt
end LW

namespace LW
open PySem PySem.Spec PyProof.Rows L2
open Evl (Ex)
variable {P : Program} {w : World} {K : PySem.W.Frag} {mg : Str → Option Value} {base : Heap}

theorem dr_isInt {i : Int} : DR2 (fun x y H Q => y = .non ∧ Q (.bl (decide (x = .non))) H) (.int i) .none (.bool false) := fun B H v w Q e hx hy k => by
  cases hx
  cases hy
  exact ⟨rfl, k _ B H (Wd.refl e) (.bl false)⟩
/-- tuples of tuples of ints, not too deep -/
def Nd : Nat → PyData → Prop
  | 0, x => ∃ i, x = .int i
  | n + 1, x => (∃ i, x = .int i) ∨ ∃ ds : List PyData, x = .tuple ds ∧ ds.length ≤ 100000 ∧ ∀ d ∈ ds, Nd n d
theorem Nd.int (n : Nat) (i : Int) : Nd n (.int i) := by
  cases n with
  | zero => exact ⟨i, rfl⟩
  | succ n => exact .inl ⟨i, rfl⟩
def gAlike (n : Nat) (ds : List PyData) (r : PyData) : Prop := ∃ x, Nd n x ∧ ds = [x, x] ∧ r = .bool true
abbrev nm__law_alike : List Str := ["_law_found", "_law_due", "_law_k"]
abbrev st__law_alike : Stmt := topS 38
theorem sc__law_alike : FnScope nm__law_alike ["_law_found", "_law_due"] (defScope st__law_alike) := ⟨rfl, rfl, rfl, by decide +kernel, rfl, by decide +kernel, by decide +kernel⟩
theorem step_alike (T : Txt mg) {f : Addr} {fd : FuncData} (F : Stands K mg "_law_alike" st__law_alike f fd) (n k0 : Nat) (g0 : List PyData → PyData → Prop) (hg : ∀ m, n = m + 1 → ∀ ds r, gAlike m ds r → g0 ds r)
    (C__law_alike : CalAt P w K mg base "_law_alike" k0 f fd ["_law_found", "_law_due"] (spD g0)) : CalAt P w K mg base "_law_alike" (k0 + 1) f fd ["_law_found", "_law_due"] (spD (gAlike n)) := by
  refine ⟨F.fn.ok sc__law_alike (fun vs H Q E h => spD_len h (by rintro ds r ⟨a, _, rfl, _⟩; rfl)) (fun cdv A outer s H vs Q E hr h => ?_), F.gl, F.fn.kp, F.fn.binds fun _ _ _ _ _ _ us hl => match us, hl with | [_, _], _ => rfl⟩
  refine ⟨_, (pss_cons (ps_if (pt_val (pe_callB (r := rIsiT K) call_isiT (by rfl) T.n_isinstance (by decide +kernel) (pa_cons (pv 1) (pa_cons (pe_tup (pa_cons (pe_bltn (v := .ty "tuple") (u := .type "tuple") (by rfl) T.n_tuple (by decide +kernel) rfl) (pa_cons (pe_bltn (v := .ty "list") (u := .type "list") (by rfl) T.n_list (by decide +kernel) rfl) pa_nil))) pa_nil)))) (pss_cons (ps_if (PW.pt (pw_or (pt_not (pt_val (pe_callB (r := rIsiT K) call_isiT (by rfl) T.n_isinstance (by decide +kernel) (pa_cons (pv 0) (pa_cons (pe_tup (pa_cons (pe_bltn (v := .ty "tuple") (u := .type "tuple") (by rfl) T.n_tuple (by decide +kernel) rfl) (pa_cons (pe_bltn (v := .ty "list") (u := .type "list") (by rfl) T.n_list (by decide +kernel) rfl) pa_nil))) pa_nil))))) (pw_or1 (pt_cmpR (r := rNeD K) (op_neD hr.units) (pe_callB (r := rIsi K) call_isi (by rfl) T.n_isinstance (by decide +kernel) (pa_cons (pv 0) (pa_cons (pe_bltn (v := .ty "list") (u := .type "list") (by rfl) T.n_list (by decide +kernel) rfl) pa_nil))) (pe_callB (r := rIsi K) call_isi (by rfl) T.n_isinstance (by decide +kernel) (pa_cons (pv 1) (pa_cons (pe_bltn (v := .ty "list") (u := .type "list") (by rfl) T.n_list (by decide +kernel) rfl) pa_nil))) (nomark _))))) (pss_one (ps_ret pe_bl)) pss_nil)
      (pss_cons (ps_if (pt_cmpR (r := rNeD K) (op_neD hr.units) (pe_callB (r := rLenD K) call_len_seq (by rfl) T.n_len PySem.boot_len (pa_cons (pv 0) pa_nil)) (pe_callB (r := rLenD K) call_len_seq (by rfl) T.n_len PySem.boot_len (pa_cons (pv 1) pa_nil)) (nomark _)) (pss_one (ps_ret pe_bl)) pss_nil)
      (pss_one (ps_ret (pe_cmpR (r := rEqD K) (op_eqD hr.units) (pe_lc (own := [("_law_k", 2)]) (g := (gName 2)) (tt := _) rfl sc__law_alike.nd (pi_range1 (by rfl) T.n_range (pa_cons (pe_callB (r := rLenD K) call_len_seq (by rfl) T.n_len PySem.boot_len (pa_cons (pv 1) pa_nil)) pa_nil)) (blkOk_by (N := nm__law_alike) (sc := (defScope st__law_alike)) (by decide +kernel)) (fun _ _ _ _ _ => (pg_name (i := 2) sc__law_alike.nd rfl (Or.inl rfl))) (fun _ _ _ _ _ => (pts_one (pt_not (pt_val (pe_call C__law_alike.ok (hr.mono (by first | decide | omega)) (by rfl) C__law_alike.gl C__law_alike.kp C__law_alike.bi .nil pass0 (pa_cons (pe_ix (r := rIxT K) ix_tup (pv 0) (pv 2) (fun _ _ => rfl)) (pa_cons (pe_ix (r := rIxT K) ix_tup (pv 1) (pv 2) (fun _ _ => rfl)) pa_nil))))))) (fun _ _ _ _ _ => (pv 2))) (pe_lst pa_nil) (nomark _)))))) pss_nil)
      (pss_cons (ps_if (PW.pt (pw_or (pt_cmpR op_isN (pv 1) pe_non (nomark _)) (pw_or1 (pt_val (pe_callB (r := rIsi K) call_isi (by rfl) T.n_isinstance (by decide +kernel) (pa_cons (pv 1) (pa_cons (pe_bltn (v := .ty "str") (u := .type "str") (by rfl) T.n_str (by decide +kernel) rfl) pa_nil))))))) (pss_one (ps_ret (pe_and (pe_cmpR (r := rEqD K) (op_eqD hr.units) (pv 0) (pv 1) (nomark _)) (pe_one (pe_cmpR (r := rEqD K) (op_eqD hr.units) (pe_callB (r := rIsi K) call_isi (by rfl) T.n_isinstance (by decide +kernel) (pa_cons (pv 0) (pa_cons (pe_bltn (v := .ty "str") (u := .type "str") (by rfl) T.n_str (by decide +kernel) rfl) pa_nil))) (pe_callB (r := rIsi K) call_isi (by rfl) T.n_isinstance (by decide +kernel) (pa_cons (pv 1) (pa_cons (pe_bltn (v := .ty "str") (u := .type "str") (by rfl) T.n_str (by decide +kernel) rfl) pa_nil))) (nomark _)))))) pss_nil)
      (pss_one (ps_ret (pe_and (pe_callB (r := rIsi K) call_isi (by rfl) T.n_isinstance (by decide +kernel) (pa_cons (pv 0) (pa_cons (pe_bltn (v := .ty "int") (u := .type "int") (by rfl) T.n_int (by decide +kernel) rfl) pa_nil))) (pe_and (pe_cmpR (r := rEqD K) (op_eqD hr.units) (pe_callB (r := rIsi K) call_isi (by rfl) T.n_isinstance (by decide +kernel) (pa_cons (pv 0) (pa_cons (pe_bltn (v := .ty "bool") (u := .type "bool") (by rfl) T.n_bool (by decide +kernel) rfl) pa_nil))) (pe_callB (r := rIsi K) call_isi (by rfl) T.n_isinstance (by decide +kernel) (pa_cons (pv 1) (pa_cons (pe_bltn (v := .ty "bool") (u := .type "bool") (by rfl) T.n_bool (by decide +kernel) rfl) pa_nil))) (nomark _)) (pe_one (pe_cmpR (r := rEqD K) (op_eqD hr.units) (pv 0) (pv 1) (nomark _))))))))), ?_⟩
  refine run_spD h ?_
  rintro ds r ⟨x, hx, rfl, rfl⟩ b D hD
  have hx' : (∃ i, x = .int i) ∨ ∃ m, n = m + 1 ∧ ∃ ds : List PyData, x = .tuple ds ∧ ds.length ≤ 100000 ∧ ∀ d ∈ ds, Nd m d := by
    cases n with
    | zero => exact .inl hx
    | succ n => exact hx.elim .inl fun h => .inr ⟨n, rfl, h⟩
  rcases hx' with ⟨i, rfl⟩ | ⟨m, rfl, es, rfl, hl, he⟩
  · refine gs_when (c := false) (dt_is (dt_val (de_isi2 (de_var rfl) kit_int_tuple kit_int_list)) rfl) (fun h => by cases h) fun _ => ?_
    refine gs_when (c := false) (dt_is (dt_or (dt_test (de_op (de_var rfl) de_non dr_isInt)) fun _ => dt_val (de_isi (de_var rfl) kit_int_str)) rfl) (fun h => by cases h) fun _ => ?_
    refine go_ret (d := .bool true) (de_is (de_andV (de_isi (de_var rfl) kit_int_int) fun _ => de_andV (de_eq (de_isi (de_var rfl) kit_int_bool) (de_isi (de_var rfl) kit_int_bool) rfl rfl) fun _ => de_eq (de_var rfl) (de_var rfl) rfl rfl) ?_) hD.rt
    simp [PyData.eqv]
  · refine gs_when (c := true) (dt_is (dt_val (de_isi2 (de_var rfl) kit_tuple_tuple kit_tuple_list)) rfl) (fun _ => ?_) (fun h => by cases h)
    refine gs_when (c := false) (dt_is (dt_or (dt_not (dt_val (de_isi2 (de_var rfl) kit_tuple_tuple kit_tuple_list))) fun _ => dt_test (de_ne (de_isi (de_var rfl) kit_tuple_list) (de_isi (de_var rfl) kit_tuple_list) rfl rfl)) rfl) (fun h => by cases h) fun _ => ?_
    refine gs_when (c := false) (dt_is (dt_test (de_ne (de_cb (da_cons (de_var rfl) da_nil) (dc_len (.t _))) (de_cb (da_cons (de_var rfl) da_nil) (dc_len (.t _))) rfl rfl)) (by rw [eqv_nat]; simp)) (fun h => by cases h) fun _ => ?_
    refine go_ret (d := .bool true) (de_is (de_eq (de_lc (xs := List.range es.length) (enc := fun (k : Nat) => .int (k : Int)) (p := fun _ => false) (f := fun k => .int (k : Int)) (js := [2]) (di_rng1 (n := (es.length : Int)) (da_cons (de_cb (da_cons (de_var rfl) da_nil) (dc_len (.t _))) da_nil) (by omega)) (by rw [List.length_range]; omega) (by decide) (fun _ _ => dg_name)
      (fun k hk => dt_is (dt_not (dt_val (de_call (r := .bool true) (da_cons (de_ixT (d := es.getD k .none) (de_var rfl) (de_var rfl) (atI_nat ?_)) (da_cons (de_ixT (d := es.getD k .none) (de_var rfl) (de_var rfl) (atI_nat ?_)) da_nil)) (hg m rfl _ _ ⟨es.getD k .none, ?_, rfl, rfl⟩)))) rfl) fun k hk h => by cases h) (de_lst da_nil (by decide)) ?_ rfl) ?_) hD.rt
    · have := List.mem_range.mp hk
      rw [List.getD_eq_getElem?_getD, List.getElem?_eq_getElem this]
      rfl
    · have := List.mem_range.mp hk
      rw [List.getD_eq_getElem?_getD, List.getElem?_eq_getElem this]
      rfl
    · have := List.mem_range.mp hk
      rw [List.getD_eq_getElem?_getD, List.getElem?_eq_getElem this]
      exact he _ (List.getElem_mem this)
    · rw [List.filter_eq_nil_iff.mpr (by simp)]; rfl
    · rw [List.filter_eq_nil_iff.mpr (by simp)]; rfl
theorem ok_alike (T : Txt mg) {f : Addr} {fd : FuncData} (F : Stands K mg "_law_alike" st__law_alike f fd) : ∀ n, CalAt P w K mg base "_law_alike" (n + 1) f fd ["_law_found", "_law_due"] (spD (gAlike n))
  | 0 => step_alike T F 0 0 (fun _ _ => False) (fun m e => by cases e) (no_call F.gl F.fn.kp (F.fn.binds fun _ _ _ _ _ _ us hl => match us, hl with | [_, _], _ => rfl))
  | n + 1 => step_alike T F (n + 1) (n + 1) (gAlike n) (fun m e ds r h => by cases e; exact h) (ok_alike T F n)
theorem nd_prD (p : FP) (h : p.1.length ≤ 100) : Nd 2 (prD p) := .inr ⟨_, rfl, by show 2 ≤ _; decide, fun d hd => by
  simp only [List.mem_cons, List.not_mem_nil, or_false] at hd
  rcases hd with rfl | rfl
  · refine .inr ⟨_, rfl, by rw [List.length_map]; omega, fun d hd => ?_⟩
    obtain ⟨i, _, rfl⟩ := List.mem_map.mp hd
    exact ⟨i, rfl⟩
  · exact .inl ⟨_, rfl⟩⟩
theorem nd_fT (R : List FP) (hl : R.length ≤ 100000) (h : ∀ p ∈ R, p.1.length ≤ 100) : Nd 3 (fT R) := .inr ⟨_, rfl, by rw [List.length_map]; exact hl, fun d hd => by
  obtain ⟨p, hp, rfl⟩ := List.mem_map.mp hd
  exact nd_prD p (h p hp)⟩
end LW

namespace LW
open PySem PySem.Spec PyProof.Rows L2
open Evl (Ex)
variable {P : Program} {w : World} {K : PySem.W.Frag} {mg : Str → Option Value} {base : Heap}

/-! ### the row's content -/
def rowC (K : PySem.W.Frag) (sc : Addr) (script : List Int) (i s t : Int) : OwnP := fun B o => o = rowL sc i s t ∧ SqL K B sc (script.map V.int)
theorem rowC.mon (K : PySem.W.Frag) (sc : Addr) (script : List Int) (i s t : Int) : MonP (rowC K sc script i s t) := fun B B' o e ⟨h, k⟩ => ⟨h, SqL.ex k e⟩
section
variable {b : Bs} {env : EnvT} {te tb : TE} {u : TS} {D : Ends} {r sc : Addr} {script : List Int} {i s t : Int} {a : Nat}
theorem rc_at {k x : Int} (ha : env[a]? = some (.own r (rowC K sc script i s t))) (h : atI [V.ref sc, .int i, .int s, .int t] k = some (.int x)) : DE (tOp (rIxL K) (tVar a) (tC (.int k))) env (.int x) := fun B σ H Q e o q => by
  obtain ⟨v, q1, q2, q3, ⟨w, q4, q5, q6⟩, _⟩ := o.at_ a _ ha
  subst q2 q5
  exact ⟨_, q1, r, _, k, _, rfl, rfl, SqL.of q4, h, q _ B H (Wd.refl e) (.int x)⟩
theorem rc_len (ha : env[a]? = some (.own r (rowC K sc script i s t))) : DE (tCB (rLenD K) (tCons (tOp (rIxL K) (tVar a) (tC (.int 0))) tNil)) env (.int script.length) := fun B σ H Q e o q => by
  obtain ⟨v, q1, q2, q3, ⟨w, q4, q5, q6⟩, _⟩ := o.at_ a _ ha
  subst q2 q5
  refine ⟨_, q1, r, _, 0, .ref sc, rfl, rfl, SqL.of q4, rfl, sc, _, rfl, .inl (SqL.ex q6 e), ?_⟩
  rw [List.length_map]
  exact q _ B H (Wd.refl e) (.int _)
theorem rc_cell {j x : Int} (ha : env[a]? = some (.own r (rowC K sc script i s t))) (hb : DE tb env (.int j)) (h : atI script j = some x) : DE (tOp (rIxL K) (tOp (rIxL K) (tVar a) (tC (.int 0))) tb) env (.int x) := fun B σ H Q e o q => by
  obtain ⟨v, q1, q2, q3, ⟨w, q4, q5, q6⟩, _⟩ := o.at_ a _ ha
  subst q2 q5
  refine ⟨_, q1, r, _, 0, .ref sc, rfl, rfl, SqL.of q4, rfl, hb B σ H _ e o fun v B' H' w d => ?_⟩
  cases d
  refine ⟨sc, _, j, .int x, rfl, rfl, SqL.ex q6 (w.b.trans w.i), ?_, q _ B' H' w (.int x)⟩
  unfold atI at h ⊢
  rw [List.length_map]
  cases z : ixN script.length j with
  | none => rw [z] at h; cases h
  | some n =>
    rw [z] at h
    show (script.map V.int)[n]? = _
    rw [List.getElem?_map, show script[n]? = some x from h]
    rfl
theorem go_rc {m : Nat} {n i' s' t' : Int} (ha : env[a]? = some (.own r (rowC K sc script i s t))) (h : DE te env (.int n)) (hm : m < 4) (e : [V.ref sc, .int i, .int s, .int t].set m (.int n) = [V.ref sc, .int i', .int s', .int t']) (k : Go b (env.set a (.own r (rowC K sc script i' s' t'))) D.nx) :
    Go b env (tAsg te (gSub (tVar a) (tC (.int (m : Int))) rSetL) D) := fun σ H ⟨B, e1, w1, o, f⟩ => by
  obtain ⟨x, q1, q2, q3, ⟨u, q4, q5, q6⟩, q7⟩ := o.at_ a _ ha
  subst q2 q5
  refine h B σ H _ w1.i o fun v B' H' w d' => ?_
  cases d'
  refine ⟨_, q1, r, _, (m : Int), m, rfl, rfl, w.h _ _ q4, ?_, ?_⟩
  · unfold ixN
    rw [if_pos (by omega), if_pos (by show (m : Int) < 4; omega)]
    simp
  · rw [e]
    exact k _ _ (SS.mut (e1.trans w.b) (w1.trans w) (o.wd w) f ha ⟨rfl, SqL.ex q6 w.b⟩ (rowC.mon _ _ _ _ _ _))
theorem gs_rc {m : Nat} {n i' s' t' : Int} (ha : env[a]? = some (.own r (rowC K sc script i s t))) (h : DE te env (.int n)) (hm : m < 4) (e : [V.ref sc, .int i, .int s, .int t].set m (.int n) = [V.ref sc, .int i', .int s', .int t']) (k : Go b (env.set a (.own r (rowC K sc script i' s' t'))) (u D)) :
    Go b env (tSeq (tAsg te (gSub (tVar a) (tC (.int (m : Int))) rSetL)) u D) := go_rc (D := { D with nx := u D }) ha h hm e k
/-- the ends of a body that draws from the row -/
def GivesC (r sc : Addr) (b : Bs) (D : Ends) (many : Int) : Prop := ∀ x v B' H' i' s' t', 0 ≤ x → x < many → 0 ≤ i' → Wd b.B0 b.H0 B' H' → B' r = none → H' r = some (rowL sc i' s' t') → Dd B' v (.int x) → D.rt v H'
theorem go_retC {many x : Int} (ha : env[a]? = some (.own r (rowC K sc script i s t))) (h : DE te env (.int x)) (h0 : 0 ≤ x) (h1 : x < many) (hi : 0 ≤ i) (k : GivesC r sc b D many) : Go b env (tRet te D) := fun σ H ⟨B, e1, w1, o, f⟩ =>
  h B σ H _ w1.i o fun v B' H' w d' => by
    obtain ⟨v', z1, z2, z3, ⟨u', z4, z5, z6⟩, _⟩ := (o.wd w).at_ a _ ha
    subst z5
    exact k x v B' H' _ _ _ h0 h1 hi (w1.trans w) z3 z4 d'
end
def spC (K : PySem.W.Frag) (sc : Addr) (script : List Int) : Sp := fun vs H Q _ => ∃ (B : Hp) (r : Addr) (i s t many : Int), vs = [.ref r, .int many] ∧ 0 ≤ i ∧ 0 < many ∧ many < 2 ^ 64 ∧ Ex B H ∧ B r = none ∧ H r = some (rowL sc i s t) ∧ SqL K B sc (script.map V.int) ∧
  ∀ x B' H' i' s' t', 0 ≤ x → x < many → 0 ≤ i' → Wd B (hide r H) B' H' → B' r = none → H' r = some (rowL sc i' s' t') → Q (.int x) H'

theorem run_spC {sc : Addr} {script : List Int} {N : List Str} {vs : List V} {H : Hp} {Q : VK} {E : XK} {ts : TS} (hN : 0 < N.length) (h : spC K sc script vs H Q E)
    (body : ∀ r i s t many, 0 ≤ i → 0 < many → many < 2 ^ 64 → ∀ (b : Bs) (D : Ends), GivesC r sc b D many → Go b (envR N (.own r (rowC K sc script i s t)) [.int many]) (ts D)) : ts { nx := fun _ H' => Q .non H', rt := Q } (L2.start N vs) H := by
  obtain ⟨B, r, i, s, t, many, rfl, hi, hm, hm2, eBH, nB, hr, hsc, k⟩ := h
  refine body r i s t many hi hm hm2 ⟨B, hide r H, B⟩ _ (fun x v B' H' i' s' t' h0 h1 hi' w nB' hr' dv => ?_) _ _ ⟨B, Ex.refl B, ⟨Ex.refl B, eBH, hide_ex, fun a u q n => ?_⟩, env_startR N hN (.cons (.int many) .nil) nB hr ⟨rfl, hsc⟩ (rowC.mon _ _ _ _ _ _), fun a ha => ?_⟩
  · cases dv
    exact k x B' H' i' s' t' h0 h1 hi' w nB' hr'
  · have n' : B a = none := n
    rw [q] at n'
    cases n'
  · have e : a = r := by
      unfold envR at ha
      rw [owned_cons, owned_dats] at ha
      simpa [ownerOf] using ha
    subst e
    exact hide_same

abbrev nm__law_taken : List Str := ["_law_row", "_law_many", "_law_cell", "_law_found"]
abbrev st__law_taken : Stmt := topS 25
theorem sc__law_taken : FnScope nm__law_taken ["_law_row", "_law_many"] (defScope st__law_taken) := ⟨rfl, rfl, rfl, by decide +kernel, rfl, by decide +kernel, by decide +kernel⟩
theorem ok_taken_c (T : Txt mg) (sc : Addr) (script : List Int) (hl : script.length ≤ 1000000) {f : Addr} {fd : FuncData} (F : Stands K mg "_law_taken" st__law_taken f fd) : FnOk P w K mg base CX0 1 f fd ["_law_row", "_law_many"] (spC K sc script) := by
  refine F.fn.ok sc__law_taken (fun vs H Q E ⟨B, r, i, s, t, many, h, _⟩ => by rw [h]; rfl) (fun cdv A outer s H vs Q E hr h => ?_)
  refine ⟨_, (pss_cons (ps_if (pt_cmpR op_gt (pe_ix (r := rIxL K) ix_list (pv 0) pe_int (fun _ _ => rfl)) pe_int (nomark _)) (pss_cons (ps_set (i := 3) sc__law_taken.nd rfl (Or.inl rfl) (pe_op op_mod (pe_callTy call_int1 (by rfl) T.n_int (by decide +kernel) (pa_cons (pe_ix (r := rIxL K) ix_list (pv 0) pe_int (fun _ _ => rfl)) pa_nil)) (pv 1)))
      (pss_cons (ps_asg (pe_op op_fdivW (pe_ix (r := rIxL K) ix_list (pv 0) pe_int (fun _ _ => rfl)) (pv 1)) (pg_sub (pv 0) pe_int set_list))
      (pss_one (ps_ret (pv 3))))) pss_nil)
      (pss_cons (ps_asg (pe_op op_add (pe_ix (r := rIxL K) ix_list (pv 0) pe_int (fun _ _ => rfl)) pe_int) (pg_sub (pv 0) pe_int set_list))
      (pss_cons (ps_if (pt_cmpR op_gt (pe_ix (r := rIxL K) ix_list (pv 0) pe_int (fun _ _ => rfl)) (pe_callB (r := rLenD K) call_len_seq (by rfl) T.n_len PySem.boot_len (pa_cons (pe_ix (r := rIxL K) ix_list (pv 0) pe_int (fun _ _ => rfl)) pa_nil)) (nomark _)) (pss_cons (ps_asg (pe_op op_mod (pe_callTy call_int1 (by rfl) T.n_int (by decide +kernel) (pa_cons (pe_op op_add (pe_op op_mul (pe_ix (r := rIxL K) ix_list (pv 0) pe_int (fun _ _ => rfl)) pe_int) pe_int) pa_nil)) pe_int) (pg_sub (pv 0) pe_int set_list))
      (pss_one (ps_ret (pe_op op_mod (pe_callTy call_int1 (by rfl) T.n_int (by decide +kernel) (pa_cons (pe_op op_fdivW (pe_ix (r := rIxL K) ix_list (pv 0) pe_int (fun _ _ => rfl)) pe_int) pa_nil)) (pv 1))))) pss_nil)
      (pss_cons (ps_set (i := 2) sc__law_taken.nd rfl (Or.inl rfl) (pe_ix (r := rIxL K) ix_list (pe_ix (r := rIxL K) ix_list (pv 0) pe_int (fun _ _ => rfl)) (pe_op op_sub (pe_ix (r := rIxL K) ix_list (pv 0) pe_int (fun _ _ => rfl)) pe_int) (fun _ _ => rfl)))
      (pss_cons (ps_asg (pe_op op_mod (pe_callTy call_int1 (by rfl) T.n_int (by decide +kernel) (pa_cons (pe_op op_add (pe_op op_add (pe_op op_mul (pe_ix (r := rIxL K) ix_list (pv 0) pe_int (fun _ _ => rfl)) pe_int) (pv 2)) pe_int) pa_nil)) pe_int) (pg_sub (pv 0) pe_int set_list))
      (pss_cons (ps_if (pt_cmpR op_ge (pv 2) (pe_op op_pow pe_int pe_int) (nomark _)) (pss_one (ps_asg (pe_op op_fdivW (pv 2) (pv 1)) (pg_sub (pv 0) pe_int set_list))) pss_nil)
      (pss_one (ps_ret (pe_op op_mod (pe_callTy call_int1 (by rfl) T.n_int (by decide +kernel) (pa_cons (pv 2) pa_nil)) (pv 1)))))))))), ?_⟩
  refine run_spC (by decide) h ?_
  intro r i s t many hi hm hm2 b D hD
  refine gs_when (c := decide (0 < t)) (dt_test (de_cmp (p := fun i j => decide (j < i)) (rc_at rfl rfl) de_int)) (fun _ => ?_) fun _ => ?_
  · refine gs_asg (d := .int (t % many)) (de_mod (de_cb (da_cons (rc_at rfl rfl) da_nil) dc_int) (de_var rfl) hm) ?_
    refine gs_rc (m := 3) (n := t / many) (i' := i) (s' := s) (t' := t / many) rfl (de_div (rc_at rfl rfl) (de_var rfl) (wide_div (b := 64) hm (by omega) (by decide) (by decide))) (by decide) rfl ?_
    exact go_retC (a := 0) (i := i) (many := many) rfl (de_var rfl) (Int.emod_nonneg _ (by omega)) (Int.emod_lt_of_pos _ hm) hi hD
  · refine gs_rc (m := 1) (n := i + 1) (i' := i + 1) (s' := s) (t' := t) rfl (de_add (rc_at rfl rfl) de_int) (by decide) rfl ?_
    refine gs_when (c := decide ((script.length : Int) < i + 1)) (dt_test (de_cmp (p := fun i j => decide (j < i)) (rc_at rfl rfl) (rc_len rfl))) (fun _ => ?_) fun hc => ?_
    · refine gs_rc (m := 2) (n := (s * 48271 + 11) % 2147483647) (i' := i + 1) (s' := (s * 48271 + 11) % 2147483647) (t' := t) rfl (de_mod (de_cb (da_cons (de_add (de_mul (rc_at rfl rfl) de_int (.inr (by decide))) de_int) da_nil) dc_int) de_int (by decide)) (by decide) rfl ?_
      exact go_retC (a := 0) (i := i + 1) (many := many) (x := ((s * 48271 + 11) % 2147483647 / 7) % many) rfl (de_mod (de_cb (da_cons (de_div (rc_at rfl rfl) de_int (wide_div (b := 64) (by decide) (by decide) (by decide) (by decide))) da_nil) dc_int) (de_var rfl) hm) (Int.emod_nonneg _ (by omega)) (Int.emod_lt_of_pos _ hm) (by omega) hD
    · have hc := of_decide_eq_false hc
      have hj : i + 1 - 1 = ((i.toNat : Nat) : Int) := by omega
      have hlt : i.toNat < script.length := by omega
      have hx : atI script (i + 1 - 1) = some script[i.toNat] := by
        rw [hj]
        exact atI_nat (List.getElem?_eq_getElem hlt)
      generalize script[i.toNat] = c at hx
      refine gs_asg (d := .int c) (rc_cell rfl (de_sub (rc_at rfl rfl) de_int) hx) ?_
      refine gs_rc (m := 2) (n := (s * 48271 + c + 11) % 2147483647) (i' := i + 1) (s' := (s * 48271 + c + 11) % 2147483647) (t' := t) rfl (de_mod (de_cb (da_cons (de_add (de_add (de_mul (rc_at rfl rfl) de_int (.inr (by decide))) (de_var rfl)) de_int) da_nil) dc_int) de_int (by decide)) (by decide) rfl ?_
      refine gs_when (c := decide ((10 : Int) ^ ((18 : Int).toNat) ≤ c)) (dt_test (de_cmp (p := fun i j => decide (j ≤ i)) (de_var rfl) (de_pow de_int de_int (by unfold CPow; decide)))) (fun _ => ?_) fun _ => ?_
      · refine go_rc (m := 3) (n := c / many) (i' := i + 1) (s' := (s * 48271 + c + 11) % 2147483647) (t' := c / many) rfl (de_div (de_var rfl) (de_var rfl) (wide_div (b := 64) hm (by omega) (by decide) (by decide))) (by decide) rfl ?_
        exact go_retC (a := 0) (i := i + 1) (many := many) (x := c % many) rfl (de_mod (de_cb (da_cons (de_var rfl) da_nil) dc_int) (de_var rfl) hm) (Int.emod_nonneg _ (by omega)) (Int.emod_lt_of_pos _ hm) (by omega) hD
      · exact go_retC (a := 0) (i := i + 1) (many := many) (x := c % many) rfl (de_mod (de_cb (da_cons (de_var rfl) da_nil) dc_int) (de_var rfl) hm) (Int.emod_nonneg _ (by omega)) (Int.emod_lt_of_pos _ hm) (by omega) hD
def preTaken (ds : List PyData) : Prop := ∃ many : Int, ds = [.int many] ∧ 0 < many ∧ many < 2 ^ 64
def gTaken (ds : List PyData) (d : PyData) : Prop := ∃ many x : Int, ds = [.int many] ∧ d = .int x ∧ 0 ≤ x ∧ x < many
theorem ok__law_taken (T : Txt mg) (sc : Addr) (script : List Int) (hl : script.length ≤ 1000000) {f : Addr} {fd : FuncData} (F : Stands K mg "_law_taken" st__law_taken f fd) : CalAt P w K mg base "_law_taken" 1 f fd ["_law_row", "_law_many"] (spR K sc script preTaken gTaken) := by
  refine ⟨FnOk.swap (ok_taken_c T sc script hl F) (fun vs H Q E h => spR_len h (by rintro ds ⟨many, rfl, _⟩; rfl)) (fun vs H Q E h => ?_), F.gl, F.fn.kp, F.fn.binds fun _ _ _ _ _ _ us hl => match us, hl with | [_, _], _ => rfl⟩
  obtain ⟨B, r, us, ds, rfl, e, nB, hr, hsc, d, ⟨many, rfl, hm, hm2⟩, k⟩ := h
  obtain ⟨v, rfl, hv⟩ := d.one
  cases hv
  refine ⟨r, sc, hr, fun i s t hi => ⟨B, r, i, s, t, many, rfl, hi, hm, hm2, fun a o h => ?_, nB, upd_same, hsc, fun x B' H' i' s' t' h0 h1 hi' w nB' hr' => ⟨i', s', t', hi', hr', k (.int x) (.int x) B' (upd H' r (rowO r sc)) ⟨many, x, rfl, rfl, h0, h1⟩ ?_ (.int x)⟩⟩⟩
  · rw [upd_ne (by rintro rfl; rw [nB] at h; cases h)]
    exact e a o h
  · have eh : hide r (upd H r (rowL sc i s t)) = hide r H := by
      funext a
      by_cases z : a = r
      · subst z
        rw [hide_same, hide_same]
      · rw [hide_ne z, hide_ne z, upd_ne z]
    rw [eh] at w
    refine ⟨w.b, fun a o h => ?_, fun a o h => ?_, fun a o h n => ?_⟩
    · rw [upd_ne (by rintro rfl; rw [nB'] at h; cases h)]
      exact w.i a o h
    · by_cases z : a = r
      · subst z
        rw [hr] at h
        cases h
        exact upd_same
      · rw [upd_ne z]
        exact w.h a o (by rw [hide_ne z]; exact h)
    · have z : a ≠ r := by
        rintro rfl
        rw [nB'] at h
        cases h
      have := w.fr a o h n
      rw [hide_ne z] at this
      exact this

abbrev nm__law_signed : List Str := ["_law_row", "_law_most"]
abbrev st__law_signed : Stmt := topS 26
theorem sc__law_signed : FnScope nm__law_signed ["_law_row", "_law_most"] (defScope st__law_signed) := ⟨rfl, rfl, rfl, by decide +kernel, rfl, by decide +kernel, by decide +kernel⟩
def preSigned (ds : List PyData) : Prop := ∃ most : Int, ds = [.int most] ∧ 0 ≤ most ∧ most < 2 ^ 32
def gSigned (ds : List PyData) (d : PyData) : Prop := ∃ most x : Int, ds = [.int most] ∧ d = .int x ∧ -most ≤ x ∧ x ≤ most
theorem ok__law_signed (T : Txt mg) (sc : Addr) (script : List Int) (C__law_taken : ∃ f fd, CalAt P w K mg base "_law_taken" 1 f fd ["_law_row", "_law_many"] (spR K sc script preTaken gTaken)) {f : Addr} {fd : FuncData} (F : Stands K mg "_law_signed" st__law_signed f fd) :
    CalAt P w K mg base "_law_signed" 2 f fd ["_law_row", "_law_most"] (spR K sc script preSigned gSigned) := by
  obtain ⟨_, _, C__law_taken⟩ := C__law_taken
  refine ⟨F.fn.ok sc__law_signed (fun vs H Q E h => spR_len h (by rintro ds ⟨many, rfl, _⟩; rfl)) (fun cdv A outer s H vs Q E hr h => ?_), F.gl, F.fn.kp, F.fn.binds fun _ _ _ _ _ _ us hl => match us, hl with | [_, _], _ => rfl⟩
  refine ⟨_, (pss_one (ps_ret (pe_op op_sub (pe_call C__law_taken.ok (hr.mono (by first | decide | omega)) (by rfl) C__law_taken.gl C__law_taken.kp C__law_taken.bi .nil pass0 (pa_cons (pv 0) (pa_cons (pe_op op_add (pe_op op_mul pe_int (pv 1)) pe_int) pa_nil))) (pv 1)))), ?_⟩
  refine run_spR (by decide) h ?_
  rintro ds r ⟨most, rfl, h0, h1⟩ b D hD
  refine go_retX (j := 0) rfl (dx_opL (y := .int most) (p := gTaken [.int (2 * most + 1)]) (dx_call (j := 0) rfl (da_cons (de_add (de_mul de_int (de_var rfl) (.inl (by decide))) de_int) da_nil) ⟨_, rfl, by omega, by omega⟩) (fun x _ => de_var rfl) ?_) hD
  rintro d ⟨many, x, e, rfl, hx0, hx1⟩
  have e : 2 * most + 1 = many := by simpa using e
  exact ⟨.int (x - most), ⟨most, x - most, rfl, rfl, by omega, by omega⟩, dr_I0 fun _ => .int _⟩
end LW

namespace LW
open PySem PySem.Spec PyProof.Rows L2
open Evl (Ex)
variable {P : Program} {w : World} {K : PySem.W.Frag} {mg : Str → Option Value} {base : Heap}

theorem dr_catL {xs ys : List PyData} (hl : xs.length + ys.length ≤ 1000000) : DR2 rCat (.list xs) (.list ys) (.list (xs ++ ys)) := fun B H v w Q e hx hy k => by
  cases hx with
  | lst h1 h2 =>
    cases hy with
    | lst h3 h4 => exact ⟨_, _, _, _, rfl, rfl, e _ _ h1, e _ _ h3, by rw [h2.len, h4.len]; exact size_ok hl, fun p hp => k _ _ _ (Wd.new e hp) (.lst upd_same ((h2.app h4).up (Ex.new (e.back hp))))⟩
theorem dr_catT {xs ys : List PyData} (hl : xs.length + ys.length ≤ 1000000) : DR2 (rCatA K) (.tuple xs) (.tuple ys) (.tuple (xs ++ ys)) := fun B H v w Q e hx hy k => by
  cases hx with
  | tup h1 h2 =>
    cases hy with
    | tup h3 h4 =>
      refine ⟨_, _, _, _, rfl, rfl, SqT.of (e _ _ h1), SqT.of (e _ _ h3), by rw [h2.len, h4.len]; exact size_ok hl, fun z => ?_, fun _ z => ?_, fun _ _ p hp => k _ _ _ (Wd.new e hp) (.tup upd_same ((h2.app h4).up (Ex.new (e.back hp))))⟩
      · have l := h2.len
        rw [z] at l
        have e0 : xs = [] := List.eq_nil_of_length_eq_zero l.symm
        subst e0
        exact k _ B H (Wd.refl e) (.tup h3 h4)
      · have l := h4.len
        rw [z] at l
        have e0 : ys = [] := List.eq_nil_of_length_eq_zero l.symm
        subst e0
        rw [List.append_nil] at k
        exact k _ B H (Wd.refl e) (.tup h1 h2)
theorem ints_of {C : Int → Prop} : ∀ {ds : List PyData}, (∀ d ∈ ds, ∃ x, d = .int x ∧ C x) → ∃ q : List Int, ds = q.map .int ∧ ∀ x ∈ q, C x
  | [], _ => ⟨[], rfl, fun x hx => by cases hx⟩
  | d :: ds, h => by
    obtain ⟨x, rfl, hx⟩ := h d (by simp)
    obtain ⟨q, rfl, hq⟩ := ints_of (ds := ds) fun e he => h e (List.mem_cons_of_mem _ he)
    exact ⟨x :: q, rfl, fun y hy => (List.mem_cons.mp hy).elim (fun e => by rw [e]; exact hx) (hq y)⟩
def bump (q : List Int) (k : Nat) (t : Int) : List Int := q.take k ++ [q.getD k 0 + 1 + t] ++ q.drop (k + 1)
/-- the simplex at a point -/
def Simp (d : Nat) (q : List Int) (ds : List PyData) : Prop := ∃ T : List (List Int), ds = T.map tI ∧ T.length = d ∧ ∀ k, k < d → ∃ t, 0 ≤ t ∧ t ≤ 1 ∧ T[k]? = some (bump q k t)
theorem simp_of {q : List Int} : ∀ {d : Nat} {ds : List PyData}, All2 (fun (k : Nat) e => ∃ t, (0 ≤ t ∧ t ≤ 1) ∧ e = tI (bump q k t)) (List.range d) ds → Simp d q ds
  | 0, ds, h => by
    have l := h.1
    rw [List.length_range] at l
    rw [List.eq_nil_of_length_eq_zero l]
    exact ⟨[], rfl, rfl, fun k hk => by omega⟩
  | d + 1, ds, h => by
    have l := h.1
    rw [List.length_range] at l
    have hlt : d < ds.length := by omega
    have sp : ds = ds.take d ++ [ds[d]] := by
      have := (List.take_append_drop d ds).symm
      rw [List.drop_eq_getElem_cons hlt, List.drop_of_length_le (by omega)] at this
      exact this
    obtain ⟨t, ht, et⟩ := h.2 d d ds[d] (by rw [List.getElem?_range (by omega)]) (List.getElem?_eq_getElem hlt)
    obtain ⟨T, e1, e2, e3⟩ := simp_of (d := d) (ds := ds.take d) ⟨by rw [List.length_take, List.length_range]; omega, fun i x e hx he => by
      have hi : i < d := by
        have := (List.getElem?_eq_some_iff.mp hx).1
        rwa [List.length_range] at this
      refine h.2 i x e ?_ ?_
      · rw [List.getElem?_range (by omega)]
        rw [List.getElem?_range hi] at hx
        exact hx
      · rw [List.getElem?_take_of_lt hi] at he
        exact he⟩
    refine ⟨T ++ [bump q d t], ?_, by rw [List.length_append, e2]; rfl, fun k hk => ?_⟩
    · rw [List.map_append, ← e1]
      conv => lhs; rw [sp]
      rw [et]
      rfl
    · rcases Nat.lt_or_ge k d with c | c
      · obtain ⟨t', h1, h2, h3⟩ := e3 k c
        exact ⟨t', h1, h2, by rw [List.getElem?_append_left (by omega)]; exact h3⟩
      · have : k = d := by omega
        subst this
        exact ⟨t, ht.1, ht.2, by rw [List.getElem?_append_right (by omega), e2]; simp⟩
def Good (d : Nat) (S : List (List Int)) : Prop := Shp d S ∧ Near S ∧ Full d S ∧ S.length ≤ 6
theorem bit {t : Int} (h0 : 0 ≤ t) (h1 : t ≤ 1) : t = 0 ∨ t = 1 := by omega
theorem range_lot (n : Nat) : List.range n ∈ lots n n := mem_lots.mpr ⟨List.Sublist.refl _, List.length_range⟩
theorem simp_good {d : Nat} {q : List Int} {ds : List PyData} (d1 : 1 ≤ d) (d3 : d ≤ 3) (hq : q.length = d) (hb : ∀ x ∈ q, -9 ≤ x ∧ x ≤ 9) (h : Simp d q ds) : ∃ S, tI q :: ds = S.map tI ∧ Good d S := by
  obtain ⟨T, rfl, hT, hk⟩ := h
  refine ⟨q :: T, rfl, ?_⟩
  match d, q, T, hq, hT with
  | 1, [a], [p], _, _ =>
    have ha := hb a (by simp)
    obtain ⟨t, h0, h1, e⟩ := hk 0 (by decide)
    have ep : p = [a + 1 + t] := by simpa [bump] using e
    subst ep
    refine ⟨⟨by decide, by decide, by simp, ?_, ?_, by simp, by simp⟩, ?_, ⟨[0, 1], range_lot 2, ?_⟩, by simp⟩
    · intro p hp x hx
      simp at hp
      rcases hp with rfl | rfl <;> simp at hx <;> omega
    · simp; omega
    · intro p hp x hx
      simp at hp
      rcases hp with rfl | rfl <;> simp at hx <;> omega
    · simp [waysM, lessM, pt, det]
      omega
  | 2, [a, b], [p, r], _, _ =>
    have ha := hb a (by simp)
    have hb' := hb b (by simp)
    obtain ⟨t, h0, h1, e⟩ := hk 0 (by decide)
    obtain ⟨s, g0, g1, e'⟩ := hk 1 (by decide)
    have ep : p = [a + 1 + t, b] := by simpa [bump] using e
    have er : r = [a, b + 1 + s] := by simpa [bump] using e'
    subst ep er
    refine ⟨⟨by decide, by decide, by simp, ?_, ?_, by simp, by simp⟩, ?_, ⟨[0, 1, 2], range_lot 3, ?_⟩, by simp⟩
    · intro p hp x hx
      simp at hp
      rcases hp with rfl | rfl | rfl <;> simp at hx <;> omega
    · simp; omega
    · intro p hp x hx
      simp at hp
      rcases hp with rfl | rfl | rfl <;> simp at hx <;> omega
    · rcases bit h0 h1 with rfl | rfl <;> rcases bit g0 g1 with rfl | rfl <;> simp [waysM, lessM, pt, det] <;> grind
  | 3, [a, b, c], [p, r, v], _, _ =>
    have ha := hb a (by simp)
    have hb' := hb b (by simp)
    have hc := hb c (by simp)
    obtain ⟨t, h0, h1, e⟩ := hk 0 (by decide)
    obtain ⟨s, g0, g1, e'⟩ := hk 1 (by decide)
    obtain ⟨u, k0, k1, e''⟩ := hk 2 (by decide)
    have ep : p = [a + 1 + t, b, c] := by simpa [bump] using e
    have er : r = [a, b + 1 + s, c] := by simpa [bump] using e'
    have ev : v = [a, b, c + 1 + u] := by simpa [bump] using e''
    subst ep er ev
    refine ⟨⟨by decide, by decide, by simp, ?_, ?_, by simp, by simp⟩, ?_, ⟨[0, 1, 2, 3], range_lot 4, ?_⟩, by simp⟩
    · intro p hp x hx
      simp at hp
      rcases hp with rfl | rfl | rfl | rfl <;> simp at hx <;> omega
    · simp; omega
    · intro p hp x hx
      simp at hp
      rcases hp with rfl | rfl | rfl | rfl <;> simp at hx <;> omega
    · rcases bit h0 h1 with rfl | rfl <;> rcases bit g0 g1 with rfl | rfl <;> rcases bit k0 k1 with rfl | rfl <;> simp [waysM, lessM, pt, det] <;> grind

abbrev nm__law_shape : List Str := ["_law_row", "_law_size", "_law_most", "_law_far", "_law_turn", "_law_found", "_law_many", "_law_p", "_law_k", "_law_lot"]
abbrev st__law_shape : Stmt := topS 31
theorem sc__law_shape : FnScope nm__law_shape ["_law_row", "_law_size", "_law_most", "_law_far"] (defScope st__law_shape) := ⟨rfl, rfl, rfl, by decide +kernel, rfl, by decide +kernel, by decide +kernel⟩
def preShape (ds : List PyData) : Prop := ∃ (d : Nat) (far : Int), ds = [.int d, .int 6, .int far] ∧ 1 ≤ d ∧ d ≤ 3 ∧ 0 ≤ far ∧ far ≤ 9
def gDraw (ds : List PyData) (r : PyData) : Prop := ∃ (d : Nat) (far : Int) (S : List (List Int)), ds = [.int d, .int 6, .int far] ∧ r = tT S ∧ Good d S
theorem ok__law_shape (T : Txt mg) (sc : Addr) (script : List Int) (C__law_taken : ∃ f fd, CalAt P w K mg base "_law_taken" 1 f fd ["_law_row", "_law_many"] (spR K sc script preTaken gTaken))
    (C__law_signed : ∃ f fd, CalAt P w K mg base "_law_signed" 2 f fd ["_law_row", "_law_most"] (spR K sc script preSigned gSigned)) (C__law_subsets : ∃ f fd, CalAt P w K mg base "_law_subsets" 1 f fd ["_law_many", "_law_size"] (spD gSubs))
    (C__law_spanLT : ∃ f fd, CalAt P w K mg base "_law_span" 5 f fd ["_law_points", "_law_lot"] (spD (gSpan lT tI)))
    {f : Addr} {fd : FuncData} (F : Stands K mg "_law_shape" st__law_shape f fd) : CalAt P w K mg base "_law_shape" 6 f fd ["_law_row", "_law_size", "_law_most", "_law_far"] (spR K sc script preShape gDraw) := by
  obtain ⟨_, _, C__law_taken⟩ := C__law_taken
  obtain ⟨_, _, C__law_signed⟩ := C__law_signed
  obtain ⟨_, _, C__law_subsets⟩ := C__law_subsets
  obtain ⟨_, _, C__law_spanLT⟩ := C__law_spanLT
  refine ⟨F.fn.ok sc__law_shape (fun vs H Q E h => spR_len h (by rintro ds ⟨many, _, rfl, _⟩; rfl)) (fun cdv A outer s H vs Q E hr h => ?_), F.gl, F.fn.kp, F.fn.binds fun _ _ _ _ _ _ us hl => match us, hl with | [_, _, _, _], _ => rfl⟩
  refine ⟨_, (pss_cons (ps_asg (pe_tup (pa_cons (pe_lst pa_nil) (pa_cons (pe_op op_add (pe_op op_add (pv 1) pe_int) (pe_call C__law_taken.ok (hr.mono (by first | decide | omega)) (by rfl) C__law_taken.gl C__law_taken.kp C__law_taken.bi .nil pass0 (pa_cons (pv 0) (pa_cons (pe_op op_sub (pv 2) (pv 1)) pa_nil)))) pa_nil))) (pg_tup rfl (pgs_cons (pg_name (i := 5) sc__law_shape.nd rfl (Or.inr rfl)) (pgs_cons (pg_name (i := 6) sc__law_shape.nd rfl (Or.inl rfl)) pgs_nil))))
      (pss_cons (ps_for PassesOwn.never rfl (pi_range1 (by rfl) T.n_range (pa_cons (pe_op op_mul pe_int (pv 6)) pa_nil)) (pg_name (i := 4) sc__law_shape.nd rfl (Or.inl rfl)) (pss_cons (ps_set (i := 7) sc__law_shape.nd rfl (Or.inr rfl) (pe_callTy (r := rTupD K) call_tuple_of (by rfl) T.n_tuple (by decide +kernel) (pa_cons (pe_lc (own := [("_law_k", 8)]) (g := (gName 8)) (tt := tYes) rfl sc__law_shape.nd (pi_range1 (by rfl) T.n_range (pa_cons (pv 1) pa_nil)) (blkOk_by (N := nm__law_shape) (sc := (defScope st__law_shape)) (by decide +kernel)) (fun _ _ _ _ _ => (pg_name (i := 8) sc__law_shape.nd rfl (Or.inl rfl))) (fun _ _ _ _ _ => pts_nil) (fun _ _ _ _ _ => (pe_call C__law_signed.ok (hr.mono (by first | decide | omega)) (by rfl) C__law_signed.gl C__law_signed.kp C__law_signed.bi .nil pass0 (pa_cons (pv 0) (pa_cons (pv 3) pa_nil))))) pa_nil)))
      (pss_one (ps_if (PW.pt (pw_and (pt_cmpR (r := rNotInD K) (op_notInD (Room.u65 hr)) (pv 7) (pv 5) (by rfl)) (pw_and1 (pt_cmpR op_lt (pe_callB (r := rLenD K) call_len_seq (by rfl) T.n_len PySem.boot_len (pa_cons (pv 5) pa_nil)) (pv 6) (nomark _))))) (pss_one (ps_expr (pe_bm PySem.F.plainAttrs_list PySem.F.slot_list_append PySem.F.type_list_append mt_append (pv 5) (pa_cons (pv 7) pa_nil)))) pss_nil))))
      (pss_cons (ps_if (PW.pt (pw_or (pt_cmpR op_le (pe_callB (r := rLenD K) call_len_seq (by rfl) T.n_len PySem.boot_len (pa_cons (pv 5) pa_nil)) (pv 1) (nomark _)) (pw_or1 (pt_cmpR (r := rEqD K) (op_eqD hr.units) (pe_lc (own := [("_law_lot", 9)]) (g := (gName 9)) (tt := _) rfl sc__law_shape.nd (pi_list (pe_call C__law_subsets.ok (hr.mono (by first | decide | omega)) (by rfl) C__law_subsets.gl C__law_subsets.kp C__law_subsets.bi .nil pass0 (pa_cons (pe_callB (r := rLenD K) call_len_seq (by rfl) T.n_len PySem.boot_len (pa_cons (pv 5) pa_nil)) (pa_cons (pe_op op_add (pv 1) pe_int) pa_nil)))) (blkOk_by (N := nm__law_shape) (sc := (defScope st__law_shape)) (by decide +kernel)) (fun _ _ _ _ _ => (pg_name (i := 9) sc__law_shape.nd rfl (Or.inl rfl))) (fun _ _ _ _ _ => (pts_one (pt_cmpR (r := rNeD K) (op_neD hr.units) (pe_call C__law_spanLT.ok (hr.mono (by first | decide | omega)) (by rfl) C__law_spanLT.gl C__law_spanLT.kp C__law_spanLT.bi .nil pass0 (pa_cons (pv 5) (pa_cons (pv 9) pa_nil))) pe_int (nomark _)))) (fun _ _ _ _ _ => (pv 9))) (pe_lst pa_nil) (nomark _))))) (pss_cons (ps_set (i := 7) sc__law_shape.nd rfl (Or.inr rfl) (pe_ix (r := rIxL K) ix_list (pv 5) pe_int (fun _ _ => rfl)))
      (pss_one (ps_set (i := 5) sc__law_shape.nd rfl (Or.inr rfl) (pe_op op_cat (pe_lst (pa_cons (pv 7) pa_nil)) (pe_lc (own := [("_law_k", 8)]) (g := (gName 8)) (tt := tYes) rfl sc__law_shape.nd (pi_range1 (by rfl) T.n_range (pa_cons (pv 1) pa_nil)) (blkOk_by (N := nm__law_shape) (sc := (defScope st__law_shape)) (by decide +kernel)) (fun _ _ _ _ _ => (pg_name (i := 8) sc__law_shape.nd rfl (Or.inl rfl))) (fun _ _ _ _ _ => pts_nil) (fun _ _ _ _ _ => (pe_op (r := rCatA K) op_catA (pe_op (r := rCatA K) op_catA (pe_slice (r := rSlA K) sl_tupA (pv 7) po_none (po_some (pv 8))) (pe_tup (pa_cons (pe_op op_add (pe_op op_add (pe_ix (r := rIxT K) ix_tup (pv 7) (pv 8) (fun _ _ => rfl)) pe_int) (pe_call C__law_taken.ok (hr.mono (by first | decide | omega)) (by rfl) C__law_taken.gl C__law_taken.kp C__law_taken.bi .nil pass0 (pa_cons (pv 0) (pa_cons pe_int pa_nil)))) pa_nil))) (pe_slice (r := rSlA K) sl_tupA (pv 7) (po_some (pe_op op_add (pv 8) pe_int)) po_none)))))))) pss_nil)
      (pss_one (ps_ret (pe_callTy (r := rTupD K) call_tuple_of (by rfl) T.n_tuple (by decide +kernel) (pa_cons (pv 5) pa_nil))))))), ?_⟩
  refine run_spR (by decide) h ?_
  rintro ds r ⟨d, far, rfl, d1, d3, f0, f9⟩ b D hD
  refine gs_tupLX (p := fun y => ∃ many : Int, y = .int many ∧ (d : Int) + 1 ≤ many ∧ many ≤ 6) (dx_opR (p := gTaken [.int (6 - (d : Int))]) (de_add (de_var (d := .int (d : Int)) rfl) de_int) (dx_call (j := 0) rfl (da_cons (de_sub (de_var (d := .int 6) rfl) (de_var (d := .int (d : Int)) rfl)) da_nil) ⟨_, rfl, by omega, by omega⟩) ?_) ?_
  · rintro y ⟨many, x, e, rfl, x0, x1⟩
    have e : 6 - (d : Int) = many := by simpa using e
    exact ⟨.int ((d : Int) + 1 + x), ⟨_, rfl, by omega, by omega⟩, dr_I0 fun _ => .int _⟩
  rintro fa y na ⟨many, rfl, m1, m6⟩
  refine gs_forS (S := List (List Int)) (xs := List.range (3 * many).toNat) (enc := fun (k : Nat) => .int (k : Int)) (fun G => [.own r (rowP K r sc script), .dat (.int d), .dat (.int 6), .dat (.int far), .any, .own fa (lstP (G.map tI)), .dat (.int many), .any, .any, .any])
    (fun pre G => G.Nodup ∧ (∀ q ∈ G, q.length = d ∧ ∀ x ∈ q, -far ≤ x ∧ x ≤ far) ∧ (G.length : Int) ≤ many ∧ (pre ≠ [] → G ≠ [])) []
    (di_rng1 (n := 3 * many) (da_cons (de_mul de_int (de_var rfl) (.inl (by decide))) da_nil) (by omega)) (LeE.refl _) ⟨List.nodup_nil, fun q hq => by (cases hq), by simp; omega, fun h => absurd rfl h⟩ (fun pre k post G c e inv h1 h2 => ?_) fun G inv => ?_
  · obtain ⟨nd, pts, lm, ne⟩ := inv
    refine gs_asgX (p := fun y => ∃ q : List Int, y = tI q ∧ q.length = d ∧ ∀ x ∈ q, -far ≤ x ∧ x ≤ far) (dx_cb (dx_map (xs := List.range d) (enc := fun (k : Nat) => .int (k : Int)) (p := fun _ y => gSigned [.int far] y) (js := [8])
      (di_rng1 (n := (d : Int)) (da_cons (de_var rfl) da_nil) (by omega)) (by rw [List.length_range]; omega) (by decide) (fun _ _ => dg_name)
      fun j hj => dx_call (j := 0) rfl (da_cons (de_var rfl) da_nil) ⟨far, rfl, by omega, by omega⟩) ?_) ?_
    · rintro y ⟨es, rfl, al⟩
      obtain ⟨q, rfl, hq⟩ := ints_of (C := fun x => -far ≤ x ∧ x ≤ far) (ds := es) fun e he => by
        obtain ⟨i, hi, rfl⟩ := List.getElem_of_mem he
        obtain ⟨m, x, e1, e2, x0, x1⟩ := al.2 i i es[i] (by rw [List.getElem?_range]; rw [← al.1.trans List.length_range]; exact hi) (List.getElem?_eq_getElem hi)
        have e1 : far = m := by simpa using e1
        subst e1
        exact ⟨x, e2, x0, x1⟩
      have hl := al.1
      rw [List.length_range, List.length_map] at hl
      exact ⟨tI q, ⟨q, rfl, hl, hq⟩, dc_tuple (.l _)⟩
    · rintro y ⟨q, rfl, ql, qb⟩
      refine go_when (dt_frz (i := 5) rfl (dt_and (dt_test (de_notIn (de_var rfl) (de_var rfl) (shaped_tI q) (shaped_list lay_tI fun a => Nat.le_trans (depth_tI a) (by decide)))) fun _ => dt_test (de_cmp (p := fun i j => decide (i < j)) (de_cb (da_cons (de_var rfl) da_nil) (dc_len (.l _))) (de_var rfl)))) (fun hc => ?_) fun hc => ?_
      · rw [any_eqv (enc := tI) eqv_tI, List.length_map] at hc
        have hc2 : q ∉ G ∧ (G.length : Int) < many := by simpa using hc
        refine go_app (d := tI q) rfl (de_var rfl) (by rw [List.length_map]; omega) (go_turnS (G ++ [q]) ⟨?_, ?_, ?_, ?_⟩ ?_)
        · refine List.nodup_append.mpr ⟨nd, by simp, fun a ha b hb e => ?_⟩
          have : b = q := by simpa using hb
          rw [e, this] at ha
          exact hc2.1 ha
        · intro p hp
          rcases List.mem_append.mp hp with hp | hp
          · exact pts p hp
          · have : p = q := by simpa using hp
            rw [this]
            exact ⟨ql, qb⟩
        · rw [List.length_append, List.length_singleton]
          omega
        · intro _ z
          simp at z
        · rw [List.map_append]
          exact .eq (.eq (.eq (.eq (.any (.eq (.eq (.any (.any (.any .nil)))))))))
      · rw [any_eqv (enc := tI) eqv_tI, List.length_map] at hc
        refine go_turnS G ⟨nd, pts, lm, fun _ z => ?_⟩ (.eq (.eq (.eq (.eq (.any (.eq (.eq (.any (.any (.any .nil))))))))))
        subst z
        simp at hc
        omega
  · obtain ⟨nd, pts, lm, ne⟩ := inv
    have ne := ne (by
      intro z
      have := congrArg List.length z
      rw [List.length_range, List.length_nil] at this
      omega)
    have l0 : 0 < G.length := List.length_pos_iff.mpr ne
    refine go_frz (i := 5) rfl ?_
    have hP : Pts d G := ⟨d1, d3, fun p hp => (pts p hp).1, fun p hp x hx => by have := (pts p hp).2 x hx; omega⟩
    refine gs_when (dt_or (a := decide ((G.length : Int) ≤ (d : Int))) (dt_test (de_cmp (p := fun i j => decide (i ≤ j)) (de_is (de_cb (da_cons (de_var rfl) da_nil) (dc_len (.l _))) (by rw [List.length_map])) (de_var rfl)))
      fun ha => dt_test (de_eq (de_lc (xs := lots G.length (d + 1)) (enc := lD) (p := fun l => !PyData.eqv (.int (det (waysM G l))) (.int 0)) (f := lD) (js := [9])
        (di_list (de_call (da_cons (de_cb (da_cons (de_var rfl) da_nil) (dc_len (.l _))) (da_cons (de_add (de_var rfl) de_int) da_nil)) ⟨G.length, d + 1, by rw [List.length_map]; rfl, by omega, by omega, rfl⟩)) (Nat.le_trans (lots_len (by omega)) (by decide)) (by decide) (fun _ _ => dg_name)
        (fun l hl => dt_test (de_ne (de_call (r := .int (det (waysM G l))) (da_cons (de_var rfl) (da_cons (de_var rfl) da_nil)) ⟨d, G, l, rfl, hP, (mem_lots.mp hl).2, lots_lt hl, rfl⟩) de_int rfl rfl)) fun l hl _ => de_var rfl) (de_lst da_nil (by decide)) (shaped_list (fun l => lay_tI _) fun l => Nat.le_trans (depth_tI _) (by decide)) shaped_nil)) (fun hc => ?_) fun hc => ?_
    · have q0 := pts _ (pt_mem l0)
      refine gs_asg (d := tI (pt G 0)) (de_ixL (de_var rfl) de_int (at_pt0 (k := 0) rfl l0)) ?_
      generalize pt G 0 = q at q0
      refine go_asgX (p := fun y => ∃ S, y = lT S ∧ Good d S) (dx_opR (de_lst (da_cons (de_var rfl) da_nil) (by show 1 ≤ _; decide)) (dx_map (xs := List.range d) (enc := fun (k : Nat) => .int (k : Int)) (p := fun (k : Nat) e => ∃ t, (0 ≤ t ∧ t ≤ 1) ∧ e = tI (bump q k t)) (js := [8])
        (di_rng1 (n := (d : Int)) (da_cons (de_var rfl) da_nil) (by omega)) (by rw [List.length_range]; omega) (by decide) (fun _ _ => dg_name) fun k hk => ?_) ?_) ?_
      · have hk := List.mem_range.mp hk
        refine dx_opL (y := .tuple ((q.drop (k + 1)).map .int)) (p := fun y => ∃ t, (0 ≤ t ∧ t ≤ 1) ∧ y = tI (q.take k ++ [q.getD k 0 + 1 + t])) (dx_opR (x := .tuple ((q.take k).map .int)) (de_is (de_slT (ds := q.map .int) (de_var rfl) do_none (do_some (de_var rfl))) (by rw [cutD_to, List.map_take]))
          (dx_tup1 (dx_opR (p := gTaken [.int 2]) (q := fun y => ∃ t, (0 ≤ t ∧ t ≤ 1) ∧ y = .int (q.getD k 0 + 1 + t)) (de_add (de_ixT (ds := q.map .int) (de_var rfl) (de_var rfl) (at_int (by omega))) de_int) (dx_call (j := 0) rfl (da_cons de_int da_nil) ⟨2, rfl, by decide, by decide⟩) ?_)) ?_)
          (fun x _ => de_is (de_slT (ds := q.map .int) (de_var rfl) (do_some (de_add (de_var rfl) de_int)) do_none) ?_) ?_
        · rintro y ⟨m, x, e, rfl, x0, x1⟩
          have e : (2 : Int) = m := by simpa using e
          exact ⟨.int (q.getD k 0 + 1 + x), ⟨x, ⟨x0, by omega⟩, rfl⟩, dr_I0 fun _ => .int _⟩
        · rintro y ⟨x, ⟨t, ht, rfl⟩, rfl⟩
          refine ⟨_, ⟨t, ht, rfl⟩, ?_⟩
          have := dr_catT (K := K) (xs := (q.take k).map .int) (ys := [.int (q.getD k 0 + 1 + t)]) (by simp; omega)
          rw [tI, List.map_append]
          exact this
        · have e1 : ((k : Int) + 1) = ((k + 1 : Nat) : Int) := by omega
          rw [e1, cutD_from, List.map_drop]
        · rintro y ⟨t, ht, rfl⟩
          refine ⟨_, ⟨t, ht, rfl⟩, ?_⟩
          have eb : tI (bump q k t) = .tuple ((q.take k ++ [q.getD k 0 + 1 + t]).map .int ++ (q.drop (k + 1)).map .int) := by
            unfold bump
            rw [tI, List.map_append]
          rw [eb]
          exact dr_catT (xs := (q.take k ++ [q.getD k 0 + 1 + t]).map .int) (ys := (q.drop (k + 1)).map .int) (by simp; omega)
      · rintro y ⟨es, rfl, al⟩
        have el := al.1
        rw [List.length_range] at el
        obtain ⟨S, e1, hS⟩ := simp_good d1 d3 q0.1 (fun x hx => by have := q0.2 x hx; omega) (simp_of al)
        refine ⟨lT S, ⟨S, rfl, hS⟩, ?_⟩
        rw [lT, ← e1]
        exact dr_catL (xs := [tI q]) (ys := es) (by rw [List.length_singleton, el]; omega)
      · rintro y ⟨S, rfl, hS⟩
        exact go_retX (j := 0) rfl (dx_of (x := tT S) (de_cb (da_cons (de_var rfl) da_nil) (dc_tuple (.l _))) ⟨d, far, S, rfl, rfl, hS⟩) hD
    · obtain ⟨ha, hb⟩ := Bool.or_eq_false_iff.mp hc
      have ha := of_decide_eq_false ha
      have hS : Good d G := by
        refine ⟨⟨d1, d3, fun p hp => (pts p hp).1, fun p hp x hx => by have := (pts p hp).2 x hx; omega, nd, by omega, by omega⟩, fun p hp x hx => by have := (pts p hp).2 x hx; omega, ?_, by omega⟩
        rw [eqv_nil, List.isEmpty_eq_false_iff] at hb
        obtain ⟨y, hy⟩ := List.exists_mem_of_ne_nil _ hb
        obtain ⟨l, hl, _⟩ := List.mem_map.mp hy
        obtain ⟨h1, h2⟩ := List.mem_filter.mp hl
        refine ⟨l, h1, fun z => ?_⟩
        rw [z] at h2
        simp [PyData.eqv] at h2
      exact go_retX (j := 0) rfl (dx_of (x := tT G) (de_cb (da_cons (de_var rfl) da_nil) (dc_tuple (.l _))) ⟨d, far, G, rfl, rfl, hS⟩) hD
end LW

namespace LW
open PySem PySem.Spec PyProof.Rows L2
open Evl (Ex)
variable {P : Program} {w : World} {K : PySem.W.Frag} {mg : Str → Option Value} {base : Heap}

/-- the points on a facet, and one beside it -/
def tightM (S : List (List Int)) (q : FP) : List (List Int) := S.filter fun p => decide (dotM q.1 p = q.2)
def besideM (d : Nat) (S : List (List Int)) (q : FP) : List Int := (List.range d).map fun k => (pt (tightM S q) 0).getD k 0 + q.1.getD k 0
/-- what the law asks of one facet -/
structure OneOk (d : Nat) (S : List (List Int)) (q : FP) : Prop where
  len : q.1.length = d
  small : ∀ x ∈ q.1, x.natAbs < 100000
  prim : gcdL q.1 = 1
  top : mxI (S.map (dotM q.1)) = q.2
  span : ∃ lot ∈ lots ((tightM S q).length + 1) (d + 1), det (waysM (tightM S q ++ [besideM d S q]) lot) ≠ 0
/-- what the law asks of all of them -/
structure LawM (d : Nat) (S : List (List Int)) : Prop where
  ne : facetsM d S ≠ []
  nd : (facetsM d S).Nodup
  few : (facetsM d S).length < 64
  one : ∀ q ∈ facetsM d S, OneOk d S q
  hull : ∀ p : List Int, p.length = d → ((∀ q ∈ facetsM d S, dotM q.1 p ≤ q.2) ↔ hullM d S p = true)
  same : facetsM d S = lawFacets d S

theorem go_start {N : List Str} {a : Addr} {ns : List Int} {H : Hp} {u : TS} {D : Ends} (hN : N.length = 15) (hs : SqL K H a (ns.map V.int))
    (k : ∀ r, Go ⟨H, H, H⟩ [.any, .own r (rowP K r a ns), .any, .any, .any, .any, .any, .any, .any, .any, .any, .any, .any, .any, .any] (u D)) :
    tSeq (tAsg (tRow a (tLst (tCons (tVar 0) (tCons (tC (.int 0)) (tCons (tC (.int 3309)) (tCons (tC (.int 0)) tNil)))))) (gName 1)) u D (L2.start N [.ref a]) H := by
  have e0 : L2.start N [.ref a] = some (.ref a) :: List.replicate 14 none := by
    unfold L2.start
    rw [hN]
    rfl
  rw [e0]
  refine ⟨.ref a, rfl, by show 4 ≤ sizeLine; decide, fun p hp => ⟨p, 0, 3309, 0, rfl, by decide, upd_same, ?_⟩⟩
  rw [upd_upd]
  have w := Wd.side (o := rowO p a) (Ex.refl H) hp
  have base : EnvOk H (upd H p (rowO p a)) (List.replicate 15 Slot.any) (some (.ref a) :: List.replicate 14 none) := by
    refine ⟨by simp, fun i s h => ?_, by decide⟩
    have hi := (List.getElem?_eq_some_iff.mp h).1
    rw [List.length_replicate] at hi
    rw [List.getElem?_replicate, if_pos hi] at h
    cases h
    have hl : i < (some (V.ref a) :: List.replicate 14 none).length := by simpa using hi
    exact ⟨_, List.getElem?_eq_getElem hl, trivial⟩
  refine k p _ _ ⟨H, Ex.refl H, w, base.set (i := 1) (s := .own p (rowP K p a ns)) (x := some (.ref p)) ⟨rfl, hp, ⟨_, upd_same, rfl, hs⟩, rowP.mon K p a ns⟩ fun c hc => .inl (by show c ∉ ([] : List Addr); simp), fun c hc => ?_⟩
  have e : c = p := by simpa [owned] using hc
  rw [e]
  exact hp
theorem sorted_self {ps : List FP} (h : ps.Pairwise fun a b => leD prD a b = true) : ps.mergeSort (leD prD) = ps :=
  sorted_same anti_prD (List.mergeSort_perm _ _) (List.pairwise_mergeSort (leD_trans prD) (leD_total prD) ps) h
theorem facetsM_sorted (d : Nat) (S : List (List Int)) : (facetsM d S).Pairwise fun a b => leD prD a b = true := List.pairwise_mergeSort (leD_trans prD) (leD_total prD) _

abbrev nm_law : List Str := ["_law_script", "_law_row", "_law_size", "_law_points", "_law_found", "_law_one", "_law_p", "_law_common", "_law_x", "_law_tight", "_law_beside", "_law_a", "_law_b", "_law_k", "_law_lot"]
abbrev st_law : Stmt := topS 40
theorem sc_law : FnScope nm_law ["_law_script"] (defScope st_law) := ⟨rfl, rfl, rfl, by decide +kernel, rfl, by decide +kernel, by decide +kernel⟩
/-- the law's promise -/
def spL (K : PySem.W.Frag) : Sp := fun vs H Q _ => ∃ (a : Addr) (ns : List Int), vs = [.ref a] ∧ SqL K H a (ns.map V.int) ∧ ns.length ≤ 63 ∧ ∀ H', Q (.bl true) H'
theorem ok_law (T : Txt mg) (hM : ∀ d S, Good d S → LawM d S)
    (C__law_taken : ∀ (sc : Addr) (script : List Int), script.length ≤ 1000000 → ∃ f fd, CalAt P w K mg base "_law_taken" 1 f fd ["_law_row", "_law_many"] (spR K sc script preTaken gTaken))
    (C__law_shape : ∀ (sc : Addr) (script : List Int), script.length ≤ 1000000 → ∃ f fd, CalAt P w K mg base "_law_shape" 6 f fd ["_law_row", "_law_size", "_law_most", "_law_far"] (spR K sc script preShape gDraw))
    (C_facets : ∃ f fd, CalAt P w K mg base "facets" 5 f fd ["shape"] (spD gFacets)) (C__law_is_vector : ∃ f fd, CalAt P w K mg base "_law_is_vector" 1 f fd ["_law_value", "_law_size"] (spD fun ds r => ∃ (a : List Int) (n : Int), ds = [tI a, .int n] ∧ a.length ≤ 100 ∧ (a.length : Int) = n ∧ r = .bool true))
    (C__law_gcd : ∃ f fd, CalAt P w K mg base "_law_gcd" 1 f fd ["_law_one", "_law_other"] (spD gGcd)) (C__law_dot : ∃ f fd, CalAt P w K mg base "_law_dot" 1 f fd ["_law_one", "_law_other"] (spD fun ds r => ∃ a b : List Int, ds = [tI a, tI b] ∧ Sm a ∧ a.length ≤ 100 ∧ a.length = b.length ∧ r = .int (dotM a b)))
    (C__law_subsets : ∃ f fd, CalAt P w K mg base "_law_subsets" 1 f fd ["_law_many", "_law_size"] (spD gSubs)) (C__law_spanLT : ∃ f fd, CalAt P w K mg base "_law_span" 5 f fd ["_law_points", "_law_lot"] (spD (gSpan lT tI)))
    (C__law_box : ∃ f fd, CalAt P w K mg base "_law_box" 1 f fd ["_law_points", "_law_n", "_law_more"] (spD gBox)) (C__law_place : ∃ f fd, CalAt P w K mg base "_law_place" 2 f fd ["_law_rows", "_law_p"] (spD gPlace))
    (C__law_in_hull : ∃ f fd, CalAt P w K mg base "_law_in_hull" 6 f fd ["_law_points", "_law_p"] (spD gHull)) (C__law_alike : ∃ f fd, CalAt P w K mg base "_law_alike" 4 f fd ["_law_found", "_law_due"] (spD (gAlike 3)))
    (C__law_facets : ∃ f fd, CalAt P w K mg base "_law_facets" 5 f fd ["_law_points"] (spD gLawF)) {f : Addr} {fd : FuncData} (F : Fun K "law" "law" st_law f fd) : FnOk P w K mg base CX0 7 f fd ["_law_script"] (spL K) := by
  obtain ⟨_, _, C_facets⟩ := C_facets
  obtain ⟨_, _, C__law_is_vector⟩ := C__law_is_vector
  obtain ⟨_, _, C__law_gcd⟩ := C__law_gcd
  obtain ⟨_, _, C__law_dot⟩ := C__law_dot
  obtain ⟨_, _, C__law_subsets⟩ := C__law_subsets
  obtain ⟨_, _, C__law_spanLT⟩ := C__law_spanLT
  obtain ⟨_, _, C__law_box⟩ := C__law_box
  obtain ⟨_, _, C__law_place⟩ := C__law_place
  obtain ⟨_, _, C__law_in_hull⟩ := C__law_in_hull
  obtain ⟨_, _, C__law_alike⟩ := C__law_alike
  obtain ⟨_, _, C__law_facets⟩ := C__law_facets
  refine F.ok sc_law (fun vs H Q E ⟨a, ns, h, _⟩ => by rw [h]; rfl) (fun cdv A outer s H vs Q E hr h => ?_)
  obtain ⟨sc0, ns, rfl, hsq, hlen, hq⟩ := h
  obtain ⟨_, _, C__law_taken⟩ := C__law_taken sc0 ns (by omega)
  obtain ⟨_, _, C__law_shape⟩ := C__law_shape sc0 ns (by omega)
  refine ⟨_, (pss_cons (ps_set (i := 1) sc_law.nd rfl (Or.inl rfl) (pe_row sc0 (pe_lst (pa_cons (pv 0) (pa_cons pe_int (pa_cons pe_int (pa_cons pe_int pa_nil)))))))
      (pss_cons (ps_set (i := 2) sc_law.nd rfl (Or.inl rfl) (pe_op op_add pe_int (pe_call C__law_taken.ok (hr.mono (by first | decide | omega)) (by rfl) C__law_taken.gl C__law_taken.kp C__law_taken.bi .nil pass0 (pa_cons (pv 1) (pa_cons pe_int pa_nil)))))
      (pss_cons (ps_set (i := 3) sc_law.nd rfl (Or.inl rfl) (pe_call C__law_shape.ok (hr.mono (by first | decide | omega)) (by rfl) C__law_shape.gl C__law_shape.kp C__law_shape.bi .nil pass0 (pa_cons (pv 1) (pa_cons (pv 2) (pa_cons pe_int (pa_cons (pe_ix (r := rIxL K) ix_list (pe_lst (pa_cons pe_int (pa_cons pe_int (pa_cons pe_int pa_nil)))) (pe_op op_sub (pv 2) pe_int) (fun _ _ => rfl)) pa_nil))))))
      (pss_cons (ps_set (i := 4) sc_law.nd rfl (Or.inl rfl) (pe_call C_facets.ok (hr.mono (by first | decide | omega)) (by rfl) C_facets.gl C_facets.kp C_facets.bi .nil pass0 (pa_cons (pv 3) pa_nil)))
      (pss_cons (ps_if (PW.pt (pw_or (pt_not (pt_val (pe_callB (r := rIsi K) call_isi (by rfl) T.n_isinstance (by decide +kernel) (pa_cons (pv 4) (pa_cons (pe_bltn (v := .ty "tuple") (u := .type "tuple") (by rfl) T.n_tuple (by decide +kernel) rfl) pa_nil))))) (pw_or1 (pt_cmpR (r := rNeD K) (op_neD hr.units) (pe_callTy (r := rLstD K) call_list_of (by rfl) T.n_list (by decide +kernel) (pa_cons (pv 4) pa_nil)) (pe_sortedSet T.n_sorted T.n_set rfl (Room.u65 hr) (pv 4)) (nomark _))))) (pss_one (ps_ret pe_bl)) pss_nil)
      (pss_cons (ps_for PassesOwn.never rfl (pi_tup (pv 4)) (pg_name (i := 5) sc_law.nd rfl (Or.inl rfl)) (pss_cons (ps_if (PW.pt (pw_or (pt_not (pt_val (pe_callB (r := rIsi K) call_isi (by rfl) T.n_isinstance (by decide +kernel) (pa_cons (pv 5) (pa_cons (pe_bltn (v := .ty "tuple") (u := .type "tuple") (by rfl) T.n_tuple (by decide +kernel) rfl) pa_nil))))) (pw_or (pt_cmpR (r := rNeD K) (op_neD hr.units) (pe_callB (r := rLenD K) call_len_seq (by rfl) T.n_len PySem.boot_len (pa_cons (pv 5) pa_nil)) pe_int (nomark _)) (pw_or1 (pt_not (pt_val (pe_call C__law_is_vector.ok (hr.mono (by first | decide | omega)) (by rfl) C__law_is_vector.gl C__law_is_vector.kp C__law_is_vector.bi .nil pass0 (pa_cons (pe_ix (r := rIxT K) ix_tup (pv 5) pe_int (fun _ _ => rfl)) (pa_cons (pv 2) pa_nil))))))))) (pss_one (ps_ret pe_bl)) pss_nil)
      (pss_cons (ps_asg (pv 5) (pg_tup rfl (pgs_cons (pg_name (i := 11) sc_law.nd rfl (Or.inr rfl)) (pgs_cons (pg_name (i := 12) sc_law.nd rfl (Or.inr rfl)) pgs_nil))))
      (pss_cons (ps_set (i := 7) sc_law.nd rfl (Or.inl rfl) pe_int)
      (pss_cons (ps_for PassesOwn.never rfl (pi_tup (pv 11)) (pg_name (i := 8) sc_law.nd rfl (Or.inl rfl)) (pss_one (ps_set (i := 7) sc_law.nd rfl (Or.inl rfl) (pe_call C__law_gcd.ok (hr.mono (by first | decide | omega)) (by rfl) C__law_gcd.gl C__law_gcd.kp C__law_gcd.bi .nil pass0 (pa_cons (pv 7) (pa_cons (pv 8) pa_nil))))))
      (pss_cons (ps_if (PW.pt (pw_or (pt_cmpR (r := rNeD K) (op_neD hr.units) (pv 7) pe_int (nomark _)) (pw_or (pt_not (pt_val (pe_call C__law_is_vector.ok (hr.mono (by first | decide | omega)) (by rfl) C__law_is_vector.gl C__law_is_vector.kp C__law_is_vector.bi .nil pass0 (pa_cons (pe_tup (pa_cons (pv 12) pa_nil)) (pa_cons pe_int pa_nil))))) (pw_or1 (pt_cmpR (r := rNeD K) (op_neD hr.units) (pe_callB (r := rMax K) (cr_max rfl) (by rfl) T.n_max (by decide +kernel) (pa_cons (pe_lc (own := [("_law_p", 6)]) (g := (gName 6)) (tt := tYes) rfl sc_law.nd (pi_tup (pv 3)) (blkOk_by (N := nm_law) (sc := (defScope st_law)) (by decide +kernel)) (fun _ _ _ _ _ => (pg_name (i := 6) sc_law.nd rfl (Or.inl rfl))) (fun _ _ _ _ _ => pts_nil) (fun _ _ _ _ _ => (pe_call C__law_dot.ok (hr.mono (by first | decide | omega)) (by rfl) C__law_dot.gl C__law_dot.kp C__law_dot.bi .nil pass0 (pa_cons (pv 11) (pa_cons (pv 6) pa_nil))))) pa_nil)) (pv 12) (nomark _)))))) (pss_one (ps_ret pe_bl)) pss_nil)
      (pss_cons (ps_set (i := 9) sc_law.nd rfl (Or.inr rfl) (pe_lc (own := [("_law_p", 6)]) (g := (gName 6)) (tt := _) rfl sc_law.nd (pi_tup (pv 3)) (blkOk_by (N := nm_law) (sc := (defScope st_law)) (by decide +kernel)) (fun _ _ _ _ _ => (pg_name (i := 6) sc_law.nd rfl (Or.inl rfl))) (fun _ _ _ _ _ => (pts_one (pt_cmpR (r := rEqD K) (op_eqD hr.units) (pe_call C__law_dot.ok (hr.mono (by first | decide | omega)) (by rfl) C__law_dot.gl C__law_dot.kp C__law_dot.bi .nil pass0 (pa_cons (pv 11) (pa_cons (pv 6) pa_nil))) (pv 12) (nomark _)))) (fun _ _ _ _ _ => (pv 6))))
      (pss_cons (ps_set (i := 10) sc_law.nd rfl (Or.inr rfl) (pe_callTy (r := rTupD K) call_tuple_of (by rfl) T.n_tuple (by decide +kernel) (pa_cons (pe_lc (own := [("_law_k", 13)]) (g := (gName 13)) (tt := tYes) rfl sc_law.nd (pi_range1 (by rfl) T.n_range (pa_cons (pv 2) pa_nil)) (blkOk_by (N := nm_law) (sc := (defScope st_law)) (by decide +kernel)) (fun _ _ _ _ _ => (pg_name (i := 13) sc_law.nd rfl (Or.inl rfl))) (fun _ _ _ _ _ => pts_nil) (fun _ _ _ _ _ => (pe_op op_add (pe_ix (r := rIxT K) ix_tup (pe_ix (r := rIxL K) ix_list (pv 9) pe_int (fun _ _ => rfl)) (pv 13) (fun _ _ => rfl)) (pe_ix (r := rIxT K) ix_tup (pv 11) (pv 13) (fun _ _ => rfl))))) pa_nil)))
      (pss_one (ps_if (pt_cmpR (r := rEqD K) (op_eqD hr.units) (pe_lc (own := [("_law_lot", 14)]) (g := (gName 14)) (tt := _) rfl sc_law.nd (pi_list (pe_call C__law_subsets.ok (hr.mono (by first | decide | omega)) (by rfl) C__law_subsets.gl C__law_subsets.kp C__law_subsets.bi .nil pass0 (pa_cons (pe_op op_add (pe_callB (r := rLenD K) call_len_seq (by rfl) T.n_len PySem.boot_len (pa_cons (pv 9) pa_nil)) pe_int) (pa_cons (pe_op op_add (pv 2) pe_int) pa_nil)))) (blkOk_by (N := nm_law) (sc := (defScope st_law)) (by decide +kernel)) (fun _ _ _ _ _ => (pg_name (i := 14) sc_law.nd rfl (Or.inl rfl))) (fun _ _ _ _ _ => (pts_one (pt_cmpR (r := rNeD K) (op_neD hr.units) (pe_call C__law_spanLT.ok (hr.mono (by first | decide | omega)) (by rfl) C__law_spanLT.gl C__law_spanLT.kp C__law_spanLT.bi .nil pass0 (pa_cons (pe_op op_cat (pv 9) (pe_lst (pa_cons (pv 10) pa_nil))) (pa_cons (pv 14) pa_nil))) pe_int (nomark _)))) (fun _ _ _ _ _ => (pv 14))) (pe_lst pa_nil) (nomark _)) (pss_one (ps_ret pe_bl)) pss_nil))))))))))
      (pss_cons (ps_for PassesOwn.never rfl (pi_list (pe_call C__law_box.ok (hr.mono (by first | decide | omega)) (by rfl) C__law_box.gl C__law_box.kp C__law_box.bi .nil pass0 (pa_cons (pv 3) (pa_cons pe_int (pa_cons pe_int pa_nil))))) (pg_name (i := 6) sc_law.nd rfl (Or.inl rfl)) (pss_one (ps_if (pt_cmpR (r := rNeD K) (op_neD hr.units) (pe_cmpR op_ge (pe_call C__law_place.ok (hr.mono (by first | decide | omega)) (by rfl) C__law_place.gl C__law_place.kp C__law_place.bi .nil pass0 (pa_cons (pv 4) (pa_cons (pv 6) pa_nil))) pe_int (nomark _)) (pe_call C__law_in_hull.ok (hr.mono (by first | decide | omega)) (by rfl) C__law_in_hull.gl C__law_in_hull.kp C__law_in_hull.bi .nil pass0 (pa_cons (pv 3) (pa_cons (pv 6) pa_nil))) (nomark _)) (pss_one (ps_ret pe_bl)) pss_nil)))
      (pss_one (ps_ret (pe_call C__law_alike.ok (hr.mono (by first | decide | omega)) (by rfl) C__law_alike.gl C__law_alike.kp C__law_alike.bi .nil pass0 (pa_cons (pv 4) (pa_cons (pe_callTy (r := rTupD K) call_tuple_of (by rfl) T.n_tuple (by decide +kernel) (pa_cons (pe_call C__law_facets.ok (hr.mono (by first | decide | omega)) (by rfl) C__law_facets.gl C__law_facets.kp C__law_facets.bi .nil pass0 (pa_cons (pv 3) pa_nil)) pa_nil)) pa_nil)))))))))))), ?_⟩
  refine go_start rfl hsq fun r => ?_
  refine gs_asgX (p := fun y => ∃ d : Nat, y = .int (d : Int) ∧ 1 ≤ d ∧ d ≤ 3) (dx_opR (p := gTaken [.int 3]) de_int (dx_call (j := 1) rfl (da_cons de_int da_nil) ⟨3, rfl, by decide, by decide⟩) ?_) ?_
  · rintro y ⟨many, x, e, rfl, x0, x1⟩
    have e : (3 : Int) = many := by simpa using e
    exact ⟨.int (1 + x), ⟨(1 + x).toNat, by rw [Int.toNat_of_nonneg (by omega)], by omega, by omega⟩, dr_I0 fun _ => .int _⟩
  rintro y ⟨d, rfl, d1, d3⟩
  obtain ⟨far, hfar, f0, f9⟩ : ∃ far : Int, atI [PyData.int 9, .int 4, .int 2] ((d : Int) - 1) = some (.int far) ∧ 0 ≤ far ∧ far ≤ 9 := by
    match d, d1, d3 with
    | 1, _, _ => exact ⟨9, rfl, by decide, by decide⟩
    | 2, _, _ => exact ⟨4, rfl, by decide, by decide⟩
    | 3, _, _ => exact ⟨2, rfl, by decide, by decide⟩
  refine gs_asgX (p := gDraw [.int d, .int 6, .int far]) (dx_call (j := 1) rfl (da_cons (de_var rfl) (da_cons de_int (da_cons (de_ixL (de_lst (da_cons de_int (da_cons de_int (da_cons de_int da_nil))) (by show 3 ≤ _; decide)) (de_sub (de_var rfl) de_int) hfar) da_nil))) ⟨d, far, rfl, d1, d3, f0, f9⟩) ?_
  rintro y ⟨d', far', S, e, rfl, hG⟩
  have ed : d' = d := by
    have : (d : Int) = (d' : Int) := by simpa using congrArg (fun l => l.head?) e
    omega
  subst ed
  have hG' := hG
  obtain ⟨hS, hN, hF, n6⟩ := hG'
  have L := hM d' S hG
  have n2 := hS.n2
  refine gs_asg (d := fT (facetsM d' S)) (de_call (da_cons (de_var rfl) da_nil) ⟨d', S, hS, hF, rfl, rfl⟩) ?_
  have hsort := sorted_self (facetsM_sorted d' S)
  obtain ⟨lne, lnd, lfew, lone, lhull, lsame⟩ := L
  have lsmall : ∀ q ∈ facetsM d' S, Sm q.1 := fun q hq x hx => by
    have := (lone q hq).small x hx
    omega
  have h3 : 3 ≤ 3 := Nat.le_refl _
  generalize facetsM d' S = R at lne lnd lfew lone lhull lsame hsort lsmall
  refine gs_when (c := false) (dt_is (dt_or (dt_not (dt_val (de_isi (de_var rfl) kit_tuple_tuple))) fun _ => dt_test (de_ne (x := .list (R.map prD)) (de_cb (da_cons (de_var rfl) da_nil) (dc_list (.t _))) (de_sortSet (de_var rfl) lnd lfew) (shaped_list lay_prD fun a => Nat.le_trans (depth_prD a) (by decide)) (shaped_list lay_prD fun a => Nat.le_trans (depth_prD a) (by decide)))) ?_) (fun h => by cases h) fun _ => ?_
  · rw [hsort, eqv_list (enc := prD) eqv_prD]
    simp
  refine gs_forN (xs := R) (enc := prD) (fun pre => [.any, .any, .dat (.int d'), .dat (tT S), .dat (fT R), .any, .any, .any, .any, .any, .any, .any, .any, .any, .any]) (fun _ => True)
    (di_tup (de_var rfl)) (.any (.any (.eq (.eq (.eq (.any (.any (.any (.any (.any (.any (.any (.any (.any (.any .nil))))))))))))))) trivial (fun pre q post c e _ h1 h2 => ?_) fun _ => ?_
  · have hq : q ∈ R := by rw [e]; simp
    have O := lone q hq
    have qs := lsmall q hq
    have ql := O.len
    refine gs_when (c := false) (dt_is (dt_or (dt_not (dt_val (de_isi (de_var rfl) kit_tuple_tuple))) fun _ => dt_or (dt_test (de_ne (x := .int 2) (de_cb (da_cons (de_var rfl) da_nil) (dc_len (.t _))) de_int rfl rfl)) fun _ => dt_not (dt_val (de_call (r := .bool true) (da_cons (de_ixT (d := tI q.1) (de_var rfl) de_int (atI_nat (j := 0) rfl)) (da_cons (de_var rfl) da_nil)) ⟨q.1, d', rfl, by omega, by rw [ql], rfl⟩))) (by simp [PyData.eqv])) (fun h => by cases h) fun _ => ?_
    refine gs_unp (x := tI q.1) (y := .int q.2) (de_var rfl) ?_
    refine gs_asg (d := .int 0) de_int ?_
    refine gs_forN (xs := q.1) (enc := .int) (fun pre3 => [.any, .any, .dat (.int d'), .dat (tT S), .dat (fT R), .any, .any, .dat (.int (gcdL pre3)), .any, .any, .any, .dat (tI q.1), .dat (.int q.2), .any, .any]) (fun _ => True)
      (di_tup (de_var rfl)) (.eq (.eq (.eq (.eq (.eq (.any (.any (.eq (.any (.any (.any (.eq (.eq (.any (.any .nil))))))))))))))) trivial (fun pre3 v post3 c3 e3 _ _ _ => ?_) fun _ => ?_
    · refine go_asg (d := .int (gcdL (pre3 ++ [v]))) (de_call (da_cons (de_var rfl) (da_cons (de_var rfl) da_nil)) ⟨_, _, rfl, by rw [gcdL_snoc]⟩) (go_turn trivial (.eq (.eq (.eq (.eq (.eq (.any (.any (.eq (.any (.any (.any (.eq (.eq (.any (.any .nil))))))))))))))))
    have hne : S.map (dotM q.1) ≠ [] := by
      obtain ⟨p, T, rfl⟩ := hS.ne
      simp
    refine gs_when (c := false) (dt_is (dt_or (dt_test (de_ne (de_var rfl) de_int rfl rfl)) fun _ => dt_or (dt_not (dt_val (de_call (r := .bool true) (da_cons (de_tup (da_cons (de_var rfl) da_nil) (by show 1 ≤ _; decide)) (da_cons de_int da_nil)) ⟨[q.2], 1, rfl, by show 1 ≤ 100; decide, rfl, rfl⟩))) fun _ =>
      dt_test (de_ne (de_cb (da_cons (de_is (de_map (xs := S) (enc := tI) (f := fun p => .int (dotM q.1 p)) (js := [6]) (di_tup (de_var rfl)) (by omega) (by decide) (fun _ _ => dg_name) fun p hp => de_call (da_cons (de_var rfl) (da_cons (de_var rfl) da_nil)) ⟨q.1, p, rfl, qs, by omega, by rw [ql, hS.len p hp], rfl⟩) (y := .list ((S.map (dotM q.1)).map .int)) (by rw [List.map_map]; rfl)) da_nil) (dc_maxI hne)) (de_var rfl) rfl rfl)) ?_) (fun h => by cases h) fun _ => ?_
    · rw [O.prim, O.top]
      simp [PyData.eqv]
    refine gs_asg (d := lT (tightM S q)) (de_is (de_lc (xs := S) (enc := tI) (p := fun p => decide (dotM q.1 p = q.2)) (f := tI) (js := [6]) (di_tup (de_var rfl)) (by omega) (by decide) (fun _ _ => dg_name)
      (fun p hp => dt_is (dt_test (de_eq (de_call (r := .int (dotM q.1 p)) (da_cons (de_var rfl) (da_cons (de_var rfl) da_nil)) ⟨q.1, p, rfl, qs, by omega, by rw [ql, hS.len p hp], rfl⟩) (de_var rfl) rfl rfl)) (by simp only [PyData.eqv]; exact Bool.beq_eq_decide_eq _ _)) fun p hp _ => de_var rfl) rfl) ?_
    have tsub : ∀ p ∈ tightM S q, p ∈ S := fun p hp => (List.mem_filter.mp hp).1
    have tne : 0 < (tightM S q).length := by
      have := (mxI_spec hne).1
      rw [O.top] at this
      obtain ⟨p, hp, ep⟩ := List.mem_map.mp this
      exact List.length_pos_of_mem (List.mem_filter.mpr ⟨hp, decide_eq_true ep⟩)
    have tlen : (tightM S q).length ≤ S.length := List.length_filter_le _ _
    have t0 := hS.len _ (tsub _ (pt_mem tne))
    have ospan := O.span
    generalize hT : tightM S q = Tt at tsub tne tlen t0 ospan ⊢
    refine gs_asg (d := tI (besideM d' S q)) (de_is (de_cb (da_cons (de_map (xs := List.range d') (enc := fun (k : Nat) => .int (k : Int)) (f := fun k => .int ((pt Tt 0).getD k 0 + q.1.getD k 0)) (js := [13]) (di_rng1 (n := (d' : Int)) (da_cons (de_var rfl) da_nil) (by omega)) (by rw [List.length_range]; omega) (by decide) (fun _ _ => dg_name)
      fun k hk => de_add (de_ixT (ds := (pt Tt 0).map .int) (de_ixL (de_var rfl) de_int (at_pt0 (k := 0) rfl tne)) (de_var rfl) (at_int (by rw [t0]; exact List.mem_range.mp hk))) (de_ixT (ds := q.1.map .int) (de_var rfl) (de_var rfl) (at_int (by rw [ql]; exact List.mem_range.mp hk)))) da_nil) (dc_tuple (.l _))) (by unfold besideM; rw [hT, tI, List.map_map]; rfl)) ?_
    have bl : (besideM d' S q).length = d' := by unfold besideM; rw [List.length_map, List.length_range]
    have bb : ∀ x ∈ besideM d' S q, -(2 ^ 40) ≤ x ∧ x ≤ 2 ^ 40 := fun x hx => by
      unfold besideM at hx
      obtain ⟨k, hk, rfl⟩ := List.mem_map.mp hx
      rw [hT]
      have hk := List.mem_range.mp hk
      have m1 : (pt Tt 0).getD k 0 ∈ pt Tt 0 := by
        rw [List.getD_eq_getElem?_getD, List.getElem?_eq_getElem (by rw [t0]; exact hk)]
        exact List.getElem_mem _
      have m2 : q.1.getD k 0 ∈ q.1 := by
        rw [List.getD_eq_getElem?_getD, List.getElem?_eq_getElem (by rw [ql]; exact hk)]
        exact List.getElem_mem _
      have := hS.box _ (tsub _ (pt_mem tne)) _ m1
      have := O.small _ m2
      omega
    generalize besideM d' S q = be at bl bb ospan ⊢
    have hP : Pts d' (Tt ++ [be]) := ⟨d1, d3, fun p hp => by
      rcases List.mem_append.mp hp with hp | hp
      · exact hS.len p (tsub p hp)
      · rw [List.mem_singleton.mp hp]; exact bl, fun p hp x hx => by
      rcases List.mem_append.mp hp with hp | hp
      · have := hS.box p (tsub p hp) x hx
        omega
      · rw [List.mem_singleton.mp hp] at hx; exact bb x hx⟩
    have hlen2 : (Tt ++ [be]).length = Tt.length + 1 := by rw [List.length_append]; rfl
    refine go_when (c := false) (dt_is (dt_test (de_eq (de_lc (xs := lots (Tt.length + 1) (d' + 1)) (enc := lD) (p := fun l => !PyData.eqv (.int (det (waysM (Tt ++ [be]) l))) (.int 0)) (f := lD) (js := [14])
      (di_list (de_call (da_cons (de_add (de_cb (da_cons (de_var rfl) da_nil) (dc_len (.l _))) de_int) (da_cons (de_add (de_var rfl) de_int) da_nil)) ⟨Tt.length + 1, d' + 1, by rw [List.length_map]; rfl, by omega, by omega, rfl⟩)) (Nat.le_trans (lots_len (by omega)) (by decide)) (by decide) (fun _ _ => dg_name)
      (fun l hl => dt_test (de_ne (de_call (r := .int (det (waysM (Tt ++ [be]) l))) (da_cons (de_is (de_catL (de_var rfl) (de_lst (da_cons (de_var rfl) da_nil) (by show 1 ≤ _; decide)) (by rw [List.length_map]; show _ + 1 ≤ _; omega)) (y := lT (Tt ++ [be])) (by rw [lT, List.map_append]; rfl)) (da_cons (de_var rfl) da_nil)) ⟨d', Tt ++ [be], l, rfl, hP, (mem_lots.mp hl).2, fun k hk => by rw [hlen2]; exact lots_lt hl k hk, rfl⟩) de_int rfl rfl)) fun l hl _ => de_var rfl) (de_lst da_nil (by decide)) (shaped_list (fun l => lay_tI _) fun l => Nat.le_trans (depth_tI _) (by decide)) shaped_nil)) ?_) (fun h => by cases h) fun _ => go_turn trivial (.any (.any (.eq (.eq (.eq (.any (.any (.any (.any (.any (.any (.any (.any (.any (.any .nil)))))))))))))))
    rw [eqv_nil, List.isEmpty_eq_false_iff]
    obtain ⟨l, hl, hz⟩ := ospan
    intro z
    have hm : lD l ∈ (List.filter (fun l => !PyData.eqv (.int (det (waysM (Tt ++ [be]) l))) (.int 0)) (lots (Tt.length + 1) (d' + 1))).map lD := List.mem_map.mpr ⟨l, List.mem_filter.mpr ⟨hl, by simp [PyData.eqv, hz]⟩, rfl⟩
    rw [z] at hm
    cases hm
  · refine gs_forN (xs := boxK S d') (enc := tI) (fun pre => [.any, .any, .dat (.int d'), .dat (tT S), .dat (fT R), .any, .any, .any, .any, .any, .any, .any, .any, .any, .any]) (fun _ => True)
      (di_list (de_call (da_cons (de_var rfl) (da_cons de_int (da_cons de_int da_nil))) ⟨d', S, hS, hN, rfl, rfl⟩)) (LeE.refl _) trivial (fun pre p post c e _ h1 h2 => ?_) fun _ => ?_
    · have hp : p ∈ boxK S d' := by rw [e]; simp
      obtain ⟨pl, pb⟩ := box_mem hS hN d' (Nat.le_refl _) p hp
      have hplace : decide (0 ≤ (if mostM R p < 0 then (1 : Int) else if mostM R p = 0 then 0 else -1)) = hullM d' S p := by
        have hn2 : (R.map fun q => dotM q.1 p - q.2) ≠ [] := by simpa using lne
        have sp := mxI_spec hn2
        have key : (∀ q ∈ R, dotM q.1 p ≤ q.2) ↔ mostM R p ≤ 0 := by
          constructor
          · intro h
            obtain ⟨q, hq, eq⟩ := List.mem_map.mp sp.1
            have := h q hq
            show mxI _ ≤ 0
            omega
          · intro h q hq
            have := sp.2 _ (List.mem_map.mpr ⟨q, hq, rfl⟩)
            have h : mxI (R.map fun q => dotM q.1 p - q.2) ≤ 0 := h
            omega
        rw [lhull p pl] at key
        cases hb : hullM d' S p with
        | true =>
          have := key.mp hb
          apply decide_eq_true
          split
          · decide
          · split <;> omega
        | false =>
          have : ¬ mostM R p ≤ 0 := fun z => by rw [key.mpr z] at hb; cases hb
          apply decide_eq_false
          rw [if_neg (by omega), if_neg (by omega)]
          decide
      refine go_when (c := false) (dt_is (dt_test (de_ne (de_cmp (p := fun i j => decide (j ≤ i)) (de_call (r := .int (if mostM R p < 0 then 1 else if mostM R p = 0 then 0 else -1)) (da_cons (de_var rfl) (da_cons (de_var rfl) da_nil)) ⟨d', R, p, rfl, lne, by omega, by omega, pl, fun q hq => ⟨(lone q hq).len, lsmall q hq⟩, rfl⟩) de_int) (de_call (r := .bool (hullM d' S p)) (da_cons (de_var rfl) (da_cons (de_var rfl) da_nil)) ⟨d', S, p, hS, hN, pl, pb, rfl, rfl⟩) rfl rfl)) ?_) (fun h => by cases h) fun _ => go_turn trivial (.eq (.eq (.eq (.eq (.eq (.any (.any (.any (.any (.any (.any (.any (.any (.any (.any .nil)))))))))))))))
      rw [hplace]
      simp [PyData.eqv]
    · refine go_ret (d := .bool true) (de_call (da_cons (de_var rfl) (da_cons (de_cb (da_cons (de_call (r := .list ((lawFacets d' S).map prD)) (da_cons (de_var rfl) da_nil) ⟨d', S, hS, rfl, rfl⟩) da_nil) (dc_tuple (.l _))) da_nil)) ⟨fT R, nd_fT R (by omega) (fun q hq => by rw [(lone q hq).len]; omega), by rw [← lsame], rfl⟩) fun v B' H' w dv => ?_
      cases dv
      exact hq H'
end LW

/-! The plain law: forms. -/
namespace LW
open PySem PySem.Spec PyProof.Rows L2
open Evl (Ex)

def Fm : Nat → List (List Int) → Int
  | 1 => Geo.f1
  | 2 => Geo.f2
  | 3 => Geo.f3
  | _ => fun _ => 0
theorem form_m {d : Nat} (d1 : 1 ≤ d) (d3 : d ≤ 3) : Geo.Form (Fm d) (d + 1) := by
  match d, d1, d3 with
  | 1, _, _ => exact Geo.form1
  | 2, _, _ => exact Geo.form2
  | 3, _, _ => exact Geo.form3
def sg : Nat → Int
  | 2 => -1
  | _ => 1
theorem sg_cases (d : Nat) : sg d = 1 ∨ sg d = -1 := by
  unfold sg
  split
  · exact .inr rfl
  · exact .inl rfl
theorem lot2 {α : Type} {l : List α} (h : l.length = 2) : ∃ a b, l = [a, b] := by
  match l, h with
  | [a, b], _ => exact ⟨a, b, rfl⟩
theorem lot3 {α : Type} {l : List α} (h : l.length = 3) : ∃ a b c, l = [a, b, c] := by
  match l, h with
  | [a, b, c], _ => exact ⟨a, b, c, rfl⟩
theorem lot4 {α : Type} {l : List α} (h : l.length = 4) : ∃ a b c e, l = [a, b, c, e] := by
  match l, h with
  | [a, b, c, e], _ => exact ⟨a, b, c, e, rfl⟩
theorem lot1 {α : Type} {l : List α} (h : l.length = 1) : ∃ a, l = [a] := by
  match l, h with
  | [a], _ => exact ⟨a, rfl⟩
theorem det_Fm {d : Nat} {S : List (List Int)} {lot : List Nat} (d1 : 1 ≤ d) (d3 : d ≤ 3) (hS : ∀ p ∈ S, p.length = d) (hl : lot.length = d + 1) (hk : ∀ k ∈ lot, k < S.length) : det (waysM S lot) = Fm d (lot.map (pt S)) := by
  match d, d1, d3 with
  | 1, _, _ =>
    obtain ⟨i, j, rfl⟩ := lot2 hl
    obtain ⟨a, ha⟩ := lot1 (hS _ (pt_mem (hk i (by simp))))
    obtain ⟨b, hb⟩ := lot1 (hS _ (pt_mem (hk j (by simp))))
    simp [waysM, lessM, det, Fm, Geo.f1, Geo.co, ha, hb]
  | 2, _, _ =>
    obtain ⟨i, j, k, rfl⟩ := lot3 hl
    obtain ⟨a0, a1, ha⟩ := lot2 (hS _ (pt_mem (hk i (by simp))))
    obtain ⟨b0, b1, hb⟩ := lot2 (hS _ (pt_mem (hk j (by simp))))
    obtain ⟨c0, c1, hc⟩ := lot2 (hS _ (pt_mem (hk k (by simp))))
    simp [waysM, lessM, det, Fm, Geo.f2, Geo.co, ha, hb, hc]
  | 3, _, _ =>
    obtain ⟨i, j, k, l, rfl⟩ := lot4 hl
    obtain ⟨a0, a1, a2, ha⟩ := lot3 (hS _ (pt_mem (hk i (by simp))))
    obtain ⟨b0, b1, b2, hb⟩ := lot3 (hS _ (pt_mem (hk j (by simp))))
    obtain ⟨c0, c1, c2, hc⟩ := lot3 (hS _ (pt_mem (hk k (by simp))))
    obtain ⟨e0, e1, e2, he⟩ := lot3 (hS _ (pt_mem (hk l (by simp))))
    simp [waysM, lessM, det, Fm, Geo.f3, Geo.dd3, Geo.co, ha, hb, hc, he]
theorem norm_Fm {d : Nat} {S : List (List Int)} {lot : List Nat} {x : List Int} (d1 : 1 ≤ d) (d3 : d ≤ 3) (hS : ∀ p ∈ S, p.length = d) (hl : lot.length = d) (hk : ∀ k ∈ lot, k < S.length) (hx : x.length = d) :
    dotM (normalM d (waysM S lot)) x - dotM (normalM d (waysM S lot)) (pt S (lot.headD 0)) = sg d * Fm d (lot.map (pt S) ++ [x]) := by
  match d, d1, d3 with
  | 1, _, _ =>
    obtain ⟨i, rfl⟩ := lot1 hl
    obtain ⟨a, ha⟩ := lot1 (hS _ (pt_mem (hk i (by simp))))
    obtain ⟨y, rfl⟩ := lot1 hx
    simp [waysM, lessM, normalM, dotM, sg, Fm, Geo.f1, Geo.co, ha]
  | 2, _, _ =>
    obtain ⟨i, j, rfl⟩ := lot2 hl
    obtain ⟨a0, a1, ha⟩ := lot2 (hS _ (pt_mem (hk i (by simp))))
    obtain ⟨b0, b1, hb⟩ := lot2 (hS _ (pt_mem (hk j (by simp))))
    obtain ⟨y0, y1, rfl⟩ := lot2 hx
    simp [waysM, lessM, normalM, dotM, sg, Fm, Geo.f2, Geo.co, ha, hb]
    grind
  | 3, _, _ =>
    obtain ⟨i, j, k, rfl⟩ := lot3 hl
    obtain ⟨a0, a1, a2, ha⟩ := lot3 (hS _ (pt_mem (hk i (by simp))))
    obtain ⟨b0, b1, b2, hb⟩ := lot3 (hS _ (pt_mem (hk j (by simp))))
    obtain ⟨c0, c1, c2, hc⟩ := lot3 (hS _ (pt_mem (hk k (by simp))))
    obtain ⟨y0, y1, y2, rfl⟩ := lot3 hx
    simp [waysM, lessM, normalM, dotM, sg, Fm, Geo.f3, Geo.dd3, Geo.co, ha, hb, hc]
    grind
/-! ### lots and sublists -/
theorem lot_sub {S : List (List Int)} {n : Nat} {lot : List Nat} (h : lot ∈ lots S.length n) : (lot.map (pt S)).Sublist S := by
  have e : S = (List.range S.length).map (pt S) := by
    apply List.ext_getElem
    · simp
    · intro i h1 h2
      rw [List.getElem_map, List.getElem_range, pt, List.getD_eq_getElem?_getD, List.getElem?_eq_getElem h1]
      rfl
  conv => rhs; rw [e]
  exact (mem_lots.mp h).1.map _
theorem sub_lot {S K : List (List Int)} (h : K.Sublist S) : ∃ lot ∈ lots S.length K.length, lot.map (pt S) = K := by
  obtain ⟨is, e, hp⟩ := List.sublist_eq_map_getElem h
  refine ⟨is.map fun i => i.val, mem_lots.mpr ⟨?_, ?_⟩, ?_⟩
  · have hsorted : (is.map fun i => i.val).Pairwise (· < ·) := List.pairwise_map.mpr hp
    have gen : ∀ (l : List Nat) (n : Nat), l.Pairwise (· < ·) → (∀ x ∈ l, x < n) → l.Sublist (List.range n) := by
      intro l n
      induction n generalizing l with
      | zero =>
        intro _ h2
        cases l with
        | nil => exact List.Sublist.refl _
        | cons x l => exact absurd (h2 x (by simp)) (Nat.not_lt_zero _)
      | succ n ih =>
        intro h1 h2
        rw [List.range_succ, sub_snoc]
        rcases Geo.nil_or_snoc l with rfl | ⟨l', m, rfl⟩
        · exact .inl (List.nil_sublist _)
        · have hlt : ∀ x ∈ l', x < m := fun x hx => (List.pairwise_append.mp h1).2.2 x hx m (by simp)
          have hm := h2 m (by simp)
          by_cases c : m = n
          · subst c
            exact .inr ⟨l', rfl, ih l' (List.pairwise_append.mp h1).1 hlt⟩
          · refine .inl (ih _ h1 fun x hx => ?_)
            rcases List.mem_append.mp hx with hx | hx
            · have := hlt x hx
              omega
            · have : x = m := by simpa using hx
              omega
    refine gen _ _ hsorted fun x hx => ?_
    obtain ⟨i, _, rfl⟩ := List.mem_map.mp hx
    exact i.isLt
  · rw [e, List.length_map, List.length_map]
  · rw [e, List.map_map]
    refine List.map_congr_left fun i _ => ?_
    show pt S i.val = S[i]
    rw [pt, List.getD_eq_getElem?_getD, List.getElem?_eq_getElem i.isLt]
    rfl
end LW

/-! The plain law: what the facets are. -/
namespace LW
open PySem PySem.Spec PyProof.Rows L2
open Evl (Ex)

theorem dotM_mul (c : Int) : ∀ a b : List Int, dotM (a.map (c * ·)) b = c * dotM a b
  | [], b => by simp [dotM]
  | x :: a, [] => by simp [dotM]
  | x :: a, y :: b => by
    have ih := dotM_mul c a b
    unfold dotM at ih ⊢
    rw [List.map_cons, List.zipWith_cons_cons, List.sum_cons, ih, List.zipWith_cons_cons, List.sum_cons]
    grind
theorem dotM_zero : ∀ {a : List Int}, (∀ x ∈ a, x = 0) → ∀ b, dotM a b = 0
  | [], _, b => by simp [dotM]
  | x :: a, h, [] => by simp [dotM]
  | x :: a, h, y :: b => by
    have ih := dotM_zero (a := a) (fun z hz => h z (List.mem_cons_of_mem _ hz)) b
    have hx := h x (by simp)
    unfold dotM at ih ⊢
    rw [List.zipWith_cons_cons, List.sum_cons, ih, hx]
    simp
theorem gcdL_nat (g : Nat) (l : List Int) : gcdL (l.map ((g : Int) * ·)) = g * gcdL l := by
  refine snoc_ind (p := fun l => gcdL (l.map ((g : Int) * ·)) = g * gcdL l) (by simp [gcdL]) (fun l x ih => ?_) l
  rw [List.map_append, List.map_cons, List.map_nil, gcdL_snoc, ih, gcdL_snoc]
  have := Int.gcd_mul_left (g : Int) (gcdL l : Int) x
  rw [Int.natAbs_natCast] at this
  rw [← this, Int.natCast_mul]
theorem gcdL_neg (l : List Int) : gcdL (l.map (-1 * ·)) = gcdL l := by
  refine snoc_ind (p := fun l => gcdL (l.map (-1 * ·)) = gcdL l) (by simp [gcdL]) (fun l x ih => ?_) l
  rw [List.map_append, List.map_cons, List.map_nil, gcdL_snoc, ih, gcdL_snoc]
  have : (-1 * x) = -x := by omega
  rw [this, Int.gcd_neg]
theorem gcdL_zero {l : List Int} : gcdL l = 0 ↔ ∀ x ∈ l, x = 0 := by
  constructor
  · intro h x hx
    have := gcdL_dvd l x hx
    rw [h] at this
    simpa using this
  · intro h
    refine snoc_ind (p := fun l => (∀ x ∈ l, x = 0) → gcdL l = 0) (fun _ => rfl) (fun l x ih h => ?_) l h
    rw [gcdL_snoc, ih fun y hy => h y (List.mem_append_left _ hy), h x (by simp)]
    rfl
theorem prim_mul {a : List Int} (h : 0 < gcdL a) : (primM a).map ((gcdL a : Int) * ·) = a := by
  unfold primM
  split
  · rw [List.map_map]
    have : ∀ x ∈ a, ((fun x => (gcdL a : Int) * x) ∘ fun x => x / (gcdL a : Int)) x = x := fun x hx => by
      show (gcdL a : Int) * (x / (gcdL a : Int)) = x
      exact Int.mul_ediv_cancel' (gcdL_dvd a x hx)
    rw [List.map_congr_left this]
    simp
  · have e : gcdL a = 1 := by omega
    rw [e]
    simp
theorem gcdL_prim {a : List Int} (h : 0 < gcdL a) : gcdL (primM a) = 1 := by
  have e := congrArg gcdL (prim_mul h)
  rw [gcdL_nat] at e
  have : gcdL a * gcdL (primM a) = gcdL a * 1 := by omega
  exact Nat.eq_of_mul_eq_mul_left h this
theorem dot_prim {a : List Int} (h : 0 < gcdL a) (x : List Int) : dotM a x = (gcdL a : Int) * dotM (primM a) x := by
  rw [← dotM_mul, prim_mul h]
theorem way_prim {a : List Int} (h : 0 < gcdL a) (s : Int) : wayM s a = (primM a).map (s * ·) := by
  unfold wayM
  conv => lhs; rw [show a.map (fun x => s * x / (gcdL a : Int)) = ((primM a).map ((gcdL a : Int) * ·)).map (fun x => s * x / (gcdL a : Int)) by rw [prim_mul h]]
  rw [List.map_map]
  refine List.map_congr_left fun y _ => ?_
  show s * ((gcdL a : Int) * y) / (gcdL a : Int) = s * y
  have : s * ((gcdL a : Int) * y) = (gcdL a : Int) * (s * y) := by grind
  rw [this]
  exact Int.mul_ediv_cancel_left _ (by omega)
theorem map_one (a : List Int) : a.map ((1 : Int) * ·) = a := by simp

/-! ### one lot's facets -/
def Con (d : Nat) (S : List (List Int)) (lot : List Nat) (q : FP) : Prop := 0 < gcdL (normalM d (waysM S lot)) ∧ ∃ s : Int, (s = 1 ∨ s = -1) ∧ q.1 = (primM (normalM d (waysM S lot))).map (s * ·) ∧ q.2 = dotM q.1 (pt S (lot.headD 0)) ∧ ∀ p ∈ S, dotM q.1 p ≤ q.2
theorem filter_zero (v : List Int) : v.filter (fun x => !PyData.eqv (.int x) (.int 0)) = [] ↔ gcdL v = 0 := by
  rw [gcdL_zero, List.filter_eq_nil_iff]
  simp [PyData.eqv]
theorem mem_facStep {d : Nat} {S : List (List Int)} {ps : List FP} {lot : List Nat} {q : FP} : q ∈ facStep d S ps lot ↔ q ∈ ps ∨ Con d S lot q := by
  unfold facStep Con
  generalize normalM d (waysM S lot) = v
  by_cases hz : gcdL v = 0
  · rw [if_pos ((filter_zero v).mpr hz)]
    constructor
    · exact .inl
    · rintro (h | ⟨h, _⟩)
      · exact h
      · omega
  · rw [if_neg fun e => hz ((filter_zero v).mp e)]
    generalize primM v = a
    generalize pt S (lot.headD 0) = j
    have hpos : 0 < gcdL v := by omega
    have key : q ∈ facPut S a (dotM a j) ps ↔ q ∈ ps ∨ (sideLe S a (dotM a j) = true ∧ q = (a, dotM a j)) ∨ (sideGe S a (dotM a j) = true ∧ q = (a.map (-1 * ·), -dotM a j)) := by
      unfold facPut
      by_cases h1 : sideLe S a (dotM a j) = true <;> by_cases h2 : sideGe S a (dotM a j) = true <;> simp only [h1, h2, if_true, if_false, mem_putP] <;> simp [mem_putP, or_assoc]
    rw [key]
    constructor
    · rintro (h | ⟨h, rfl⟩ | ⟨h, rfl⟩)
      · exact .inl h
      · refine .inr ⟨hpos, 1, .inl rfl, (map_one a).symm, rfl, of_decide_eq_true h⟩
      · refine .inr ⟨hpos, -1, .inr rfl, rfl, ?_, fun p hp => ?_⟩
        · show -dotM a j = dotM (a.map (-1 * ·)) j
          rw [dotM_mul]
          omega
        · have := of_decide_eq_true h p hp
          show dotM (a.map (-1 * ·)) p ≤ -dotM a j
          rw [dotM_mul]
          omega
    · rintro (h | ⟨_, s, hs, e1, e2, h⟩)
      · exact .inl h
      · right
        rcases hs with rfl | rfl
        · left
          rw [map_one] at e1
          rw [e1] at e2 h
          rw [e2] at h
          exact ⟨decide_eq_true h, Prod.ext e1 e2⟩
        · right
          rw [e1, dotM_mul] at e2
          have e3 : q.2 = -dotM a j := by omega
          refine ⟨decide_eq_true fun p hp => ?_, Prod.ext e1 e3⟩
          have := h p hp
          rw [e1, dotM_mul, e3] at this
          omega
theorem mxI_eq {l : List Int} {m : Int} (h1 : m ∈ l) (h2 : ∀ y ∈ l, y ≤ m) : mxI l = m := by
  have hne : l ≠ [] := by
    intro e
    rw [e] at h1
    cases h1
  have sp := mxI_spec hne
  exact Int.le_antisymm (h2 _ sp.1) (sp.2 _ h1)
theorem top_iff {S : List (List Int)} {c j : List Int} (hj : j ∈ S) : mxI (S.map (dotM c)) = dotM c j ↔ ∀ p ∈ S, dotM c p ≤ dotM c j := by
  constructor
  · intro h p hp
    rw [← h]
    exact (mxI_spec (by intro e; rw [List.map_eq_nil_iff] at e; rw [e] at hj; cases hj)).2 _ (List.mem_map.mpr ⟨p, hp, rfl⟩)
  · intro h
    refine mxI_eq (List.mem_map.mpr ⟨j, hj, rfl⟩) fun y hy => ?_
    obtain ⟨p, hp, rfl⟩ := List.mem_map.mp hy
    exact h p hp
theorem mem_sideM {S : List (List Int)} {a : List Int} {lot : List Nat} {ps : List FP} {s : Int} {q : FP} (hj : pt S (lot.headD 0) ∈ S) :
    q ∈ sideM S a lot ps s ↔ q ∈ ps ∨ (q.1 = wayM s a ∧ q.2 = dotM q.1 (pt S (lot.headD 0)) ∧ ∀ p ∈ S, dotM q.1 p ≤ q.2) := by
  unfold sideM
  have hiff := top_iff (c := wayM s a) hj
  generalize wayM s a = c at hiff ⊢
  generalize pt S (lot.headD 0) = j at hiff ⊢
  by_cases h1 : ∀ p ∈ S, dotM c p ≤ dotM c j
  · have e : (q.1 = c ∧ q.2 = dotM q.1 j ∧ ∀ p ∈ S, dotM q.1 p ≤ q.2) ↔ q = (c, dotM c j) := by
      constructor
      · rintro ⟨e1, e2, _⟩
        rw [e1] at e2
        exact Prod.ext e1 e2
      · rintro rfl
        exact ⟨rfl, rfl, h1⟩
    rw [e]
    by_cases h2 : (c, dotM c j) ∈ ps
    · rw [if_neg fun h => h.2 h2]
      constructor
      · exact .inl
      · rintro (h | rfl)
        · exact h
        · exact h2
    · rw [if_pos ⟨hiff.mpr h1, h2⟩]
      simp
  · rw [if_neg fun h => h1 (hiff.mp h.1)]
    constructor
    · exact .inl
    · rintro (h | ⟨e1, e2, h3⟩)
      · exact h
      · rw [e1] at e2 h3
        rw [e2] at h3
        exact absurd h3 h1
theorem mem_lawStep {d : Nat} {S : List (List Int)} {ps : List FP} {lot : List Nat} {q : FP} (hj : pt S (lot.headD 0) ∈ S) : q ∈ lawStep d S ps lot ↔ q ∈ ps ∨ Con d S lot q := by
  unfold lawStep Con
  generalize normalM d (waysM S lot) = v
  unfold sidesL
  by_cases hz : 0 < gcdL v
  · rw [if_pos hz, List.foldl_cons, List.foldl_cons, List.foldl_nil, mem_sideM hj, mem_sideM hj, way_prim hz, way_prim hz]
    constructor
    · rintro ((h | h) | h)
      · exact .inl h
      · exact .inr ⟨hz, 1, .inl rfl, h⟩
      · exact .inr ⟨hz, -1, .inr rfl, h⟩
    · rintro (h | ⟨_, s, rfl | rfl, h⟩)
      · exact .inl (.inl h)
      · exact .inl (.inr h)
      · exact .inr h
  · rw [if_neg hz]
    constructor
    · exact .inl
    · rintro (h | ⟨h, _⟩)
      · exact h
      · exact absurd h hz
theorem mem_facs {d : Nat} {S : List (List Int)} {q : FP} (ls : List (List Nat)) : q ∈ facs d S ls ↔ ∃ lot ∈ ls, Con d S lot q := by
  refine snoc_ind (p := fun ls => q ∈ facs d S ls ↔ ∃ lot ∈ ls, Con d S lot q) (by simp [facs]) (fun ls l ih => ?_) ls
  rw [facs_snoc, mem_facStep, ih]
  constructor
  · rintro (⟨m, hm, h⟩ | h)
    · exact ⟨m, List.mem_append_left _ hm, h⟩
    · exact ⟨l, by simp, h⟩
  · rintro ⟨m, hm, h⟩
    rcases List.mem_append.mp hm with hm | hm
    · exact .inl ⟨m, hm, h⟩
    · rw [List.mem_singleton.mp hm] at h
      exact .inr h
theorem mem_lawFs {d : Nat} {S : List (List Int)} {q : FP} (ls : List (List Nat)) (h : ∀ l ∈ ls, pt S (l.headD 0) ∈ S) : q ∈ lawFs d S ls ↔ ∃ lot ∈ ls, Con d S lot q := by
  refine snoc_ind (p := fun ls => (∀ l ∈ ls, pt S (l.headD 0) ∈ S) → (q ∈ lawFs d S ls ↔ ∃ lot ∈ ls, Con d S lot q)) (fun _ => by simp [lawFs]) (fun ls l ih h => ?_) ls h
  rw [lawFs_snoc, mem_lawStep (h l (by simp)), ih fun m hm => h m (List.mem_append_left _ hm)]
  constructor
  · rintro (⟨m, hm, h⟩ | h)
    · exact ⟨m, List.mem_append_left _ hm, h⟩
    · exact ⟨l, by simp, h⟩
  · rintro ⟨m, hm, h⟩
    rcases List.mem_append.mp hm with hm | hm
    · exact .inl ⟨m, hm, h⟩
    · rw [List.mem_singleton.mp hm] at h
      exact .inr h
theorem sideM_nd {S : List (List Int)} {a : List Int} {lot : List Nat} {ps : List FP} {s : Int} (h : ps.Nodup) : (sideM S a lot ps s).Nodup := by
  unfold sideM
  split
  · rename_i hc
    refine List.nodup_append.mpr ⟨h, by simp, fun x hx y hy e => ?_⟩
    rw [List.mem_singleton.mp hy] at e
    rw [e] at hx
    exact hc.2 hx
  · exact h
theorem fold_nd {S : List (List Int)} {a : List Int} {lot : List Nat} : ∀ (l : List Int) (ps : List FP), ps.Nodup → (l.foldl (sideM S a lot) ps).Nodup
  | [], _, h => h
  | x :: l, ps, h => fold_nd l _ (sideM_nd h)
theorem lawFs_nd {d : Nat} {S : List (List Int)} (ls : List (List Nat)) : (lawFs d S ls).Nodup := by
  refine snoc_ind (p := fun ls => (lawFs d S ls).Nodup) List.nodup_nil (fun l x ih => ?_) ls
  rw [lawFs_snoc]
  exact fold_nd _ _ ih
section
variable {d : Nat} {S : List (List Int)}
theorem lot_head (d1 : 1 ≤ d) {lot : List Nat} (h : lot ∈ lots S.length d) : lot ≠ [] ∧ pt S (lot.headD 0) ∈ S := by
  have hne : lot ≠ [] := by
    intro e
    have := (mem_lots.mp h).2
    rw [e] at this
    simp at this
    omega
  exact ⟨hne, pt_mem (lots_lt h _ (head_mem hne))⟩
theorem facets_same (d1 : 1 ≤ d) : facetsM d S = lawFacets d S := by
  unfold facetsM lawFacets
  refine sort_perm anti_prD ((List.perm_ext_iff_of_nodup (facs_nd _) (lawFs_nd _)).mpr fun q => ?_)
  rw [mem_facs, mem_lawFs _ fun l hl => (lot_head d1 hl).2]
theorem mem_facetsM {q : FP} : q ∈ facetsM d S ↔ ∃ lot ∈ lots S.length d, Con d S lot q := by
  unfold facetsM
  rw [List.mem_mergeSort, mem_facs]
theorem con_rel (hS : Shp d S) {lot : List Nat} (hl : lot ∈ lots S.length d) {q : FP} (h : Con d S lot q) :
    ∃ g t : Int, 0 < g ∧ (t = 1 ∨ t = -1) ∧ ∀ x : List Int, x.length = d → g * (q.2 - dotM q.1 x) = t * Fm d (lot.map (pt S) ++ [x]) := by
  obtain ⟨hg, s, hs, e1, e2, _⟩ := h
  refine ⟨(gcdL (normalM d (waysM S lot)) : Int), -(s * sg d), by omega, ?_, fun x hx => ?_⟩
  · rcases hs with rfl | rfl <;> rcases sg_cases d with e | e <;> rw [e] <;> decide
  · have n := norm_Fm hS.d1 hS.d3 hS.len (mem_lots.mp hl).2 (lots_lt hl) hx
    rw [dot_prim hg, dot_prim hg (pt S (lot.headD 0))] at n
    rw [e2, e1, dotM_mul, dotM_mul]
    generalize dotM (primM (normalM d (waysM S lot))) x = u at n ⊢
    generalize dotM (primM (normalM d (waysM S lot))) (pt S (lot.headD 0)) = v at n ⊢
    generalize (gcdL (normalM d (waysM S lot)) : Int) = g at n ⊢
    grind
theorem con_of (hS : Shp d S) {lot : List Nat} (hl : lot ∈ lots S.length d) {t : Int} (ht : t = 1 ∨ t = -1) (hs : ∀ x ∈ S, 0 ≤ t * Fm d (lot.map (pt S) ++ [x])) {y : List Int} (hy : y.length = d) (hn : Fm d (lot.map (pt S) ++ [y]) ≠ 0) :
    ∃ q g, q ∈ facetsM d S ∧ 0 < g ∧ ∀ x : List Int, x.length = d → g * (q.2 - dotM q.1 x) = t * Fm d (lot.map (pt S) ++ [x]) := by
  have hg : 0 < gcdL (normalM d (waysM S lot)) := by
    rcases Nat.eq_zero_or_pos (gcdL (normalM d (waysM S lot))) with z | z
    · exfalso
      have n := norm_Fm hS.d1 hS.d3 hS.len (mem_lots.mp hl).2 (lots_lt hl) hy
      rw [dotM_zero (gcdL_zero.mp z), dotM_zero (gcdL_zero.mp z)] at n
      rcases sg_cases d with e | e <;> rw [e] at n <;> omega
    · exact z
  have rel : ∀ x : List Int, x.length = d → (gcdL (normalM d (waysM S lot)) : Int) * (dotM ((primM (normalM d (waysM S lot))).map (-(t * sg d) * ·)) (pt S (lot.headD 0)) - dotM ((primM (normalM d (waysM S lot))).map (-(t * sg d) * ·)) x) = t * Fm d (lot.map (pt S) ++ [x]) := fun x hx => by
    have n := norm_Fm hS.d1 hS.d3 hS.len (mem_lots.mp hl).2 (lots_lt hl) hx
    rw [dot_prim hg, dot_prim hg (pt S (lot.headD 0))] at n
    rw [dotM_mul, dotM_mul]
    generalize dotM (primM (normalM d (waysM S lot))) x = u at n ⊢
    generalize dotM (primM (normalM d (waysM S lot))) (pt S (lot.headD 0)) = v at n ⊢
    generalize (gcdL (normalM d (waysM S lot)) : Int) = g at n ⊢
    rcases sg_cases d with e | e <;> rw [e] at n ⊢ <;> grind
  refine ⟨((primM (normalM d (waysM S lot))).map (-(t * sg d) * ·), dotM ((primM (normalM d (waysM S lot))).map (-(t * sg d) * ·)) (pt S (lot.headD 0))), _, mem_facetsM.mpr ⟨lot, hl, hg, -(t * sg d), ?_, rfl, rfl, fun p hp => ?_⟩, by omega, rel⟩
  · rcases ht with rfl | rfl <;> rcases sg_cases d with e | e <;> rw [e] <;> decide
  · have r := rel p (hS.len p hp)
    have h0 := hs p hp
    rw [← r] at h0
    have : 0 ≤ dotM ((primM (normalM d (waysM S lot))).map (-(t * sg d) * ·)) (pt S (lot.headD 0)) - dotM ((primM (normalM d (waysM S lot))).map (-(t * sg d) * ·)) p := by
      rcases Int.lt_or_le (dotM ((primM (normalM d (waysM S lot))).map (-(t * sg d) * ·)) (pt S (lot.headD 0)) - dotM ((primM (normalM d (waysM S lot))).map (-(t * sg d) * ·)) p) 0 with c | c
      · have := Int.mul_neg_of_pos_of_neg (show (0 : Int) < (gcdL (normalM d (waysM S lot)) : Int) by omega) c
        omega
      · exact c
    show dotM ((primM (normalM d (waysM S lot))).map (-(t * sg d) * ·)) p ≤ dotM ((primM (normalM d (waysM S lot))).map (-(t * sg d) * ·)) (pt S (lot.headD 0))
    omega
end
end LW

/-! The plain law: it holds. -/
namespace LW
open PySem PySem.Spec PyProof.Rows L2
open Evl (Ex)

theorem lots_few : ∀ n, n < 7 → ∀ d, d < 4 → ((grow d n).filter fun l => decide (l.length = d)).length ≤ 20 := by decide +kernel
theorem dotM_add {c u v : List Int} (h1 : c.length = u.length) (h2 : u.length = v.length) : dotM c (List.zipWith (· + ·) u v) = dotM c u + dotM c v := by
  induction c generalizing u v with
  | nil => simp [dotM]
  | cons x c ih =>
    match u, v, h1, h2 with
    | y :: u, z :: v, h1, h2 =>
      have := ih (u := u) (v := v) (by simpa using h1) (by simpa using h2)
      unfold dotM at this ⊢
      rw [List.zipWith_cons_cons, List.zipWith_cons_cons, List.sum_cons, this, List.zipWith_cons_cons, List.zipWith_cons_cons, List.sum_cons, List.sum_cons]
      grind
theorem dotM_self : ∀ c : List Int, 0 ≤ dotM c c ∧ (dotM c c = 0 → ∀ x ∈ c, x = 0)
  | [] => by simp [dotM]
  | x :: c => by
    obtain ⟨h1, h2⟩ := dotM_self c
    have e : dotM (x :: c) (x :: c) = x * x + dotM c c := by
      unfold dotM
      rw [List.zipWith_cons_cons, List.sum_cons]
    have hx : 0 ≤ x * x := by
      rcases Int.le_total 0 x with h | h
      · exact Int.mul_nonneg h h
      · exact Int.mul_nonneg_of_nonpos_of_nonpos h h
    refine ⟨by omega, fun h => ?_⟩
    have z : x * x = 0 := by omega
    intro y hy
    rcases List.mem_cons.mp hy with e | hy
    · rw [e]
      rcases Int.mul_eq_zero.mp z with h | h <;> exact h
    · exact h2 (by omega) y hy
theorem mul_zero_of {g u : Int} (hg : 0 < g) (h : g * u = 0) : u = 0 := by
  rcases Int.mul_eq_zero.mp h with h | h
  · omega
  · exact h
theorem mul_pos_iff' {g u : Int} (hg : 0 < g) : 0 ≤ u ↔ 0 ≤ g * u := by
  constructor
  · intro h
    exact Int.mul_nonneg (by omega) h
  · intro h
    rcases Int.lt_or_le u 0 with c | c
    · have := Int.mul_neg_of_pos_of_neg hg c
      omega
    · exact c
section
variable {d : Nat} {S : List (List Int)}
theorem Shp.norm (hS : Shp d S) {lot : List Nat} (hl : lot ∈ lots S.length d) : (normalM d (waysM S lot)).length = d ∧ ∀ x ∈ normalM d (waysM S lot), x.natAbs < 100000 := by
  have lk := lots_lt hl
  have hsh := fl_rows hS.d1 hS.d3 (ws := waysM S lot) (by rw [ways_len, (mem_lots.mp hl).2]) fun r hr => (ways_row hS lk hr).1
  exact normal_small hsh fun r hr => (ways_row hS lk hr).2
theorem con_tight (hS : Shp d S) {lot : List Nat} (hl : lot ∈ lots S.length d) {q : FP} (h : Con d S lot q) : ∀ j ∈ lot.map (pt S), dotM q.1 j = q.2 := fun j hj => by
  obtain ⟨g, t, hg, ht, rel⟩ := con_rel hS hl h
  have hjS : j ∈ S := (lot_sub hl).subset hj
  have r := rel j (hS.len j hjS)
  obtain ⟨A, B, e⟩ := List.append_of_mem hj
  have z : Fm d (lot.map (pt S) ++ [j]) = 0 := by
    rw [e]
    have := (form_m hS.d1 hS.d3).alt.twice j B A []
    simpa using this
  rw [z, Int.mul_zero] at r
  have := mul_zero_of hg r
  omega
theorem facet_ok (hS : Shp d S) {q : FP} (hq : q ∈ facetsM d S) : OneOk d S q := by
  obtain ⟨lot, hl, hc⟩ := mem_facetsM.mp hq
  have hc' := hc
  obtain ⟨hg, s, hs, e1, e2, top⟩ := hc'
  have nrm := hS.norm hl
  obtain ⟨hne, hj0⟩ := lot_head hS.d1 hl
  have len : q.1.length = d := by rw [e1, List.length_map, primM_len, nrm.1]
  have prim : gcdL q.1 = 1 := by
    rw [e1]
    rcases hs with rfl | rfl
    · rw [map_one]
      exact gcdL_prim hg
    · rw [gcdL_neg]
      exact gcdL_prim hg
  have htop : mxI (S.map (dotM q.1)) = q.2 := by
    rw [e2]
    exact (top_iff hj0).mpr fun p hp => by
      have := top p hp
      omega
  refine ⟨len, fun x hx => ?_, prim, htop, ?_⟩
  · rw [e1] at hx
    obtain ⟨y, hy, rfl⟩ := List.mem_map.mp hx
    have := primM_small _ nrm.2 y hy
    rcases hs with rfl | rfl <;> omega
  · have tg := con_tight hS hl hc
    have jsub : (lot.map (pt S)).Sublist (tightM S q) := by
      have z := (lot_sub hl).filter fun p => decide (dotM q.1 p = q.2)
      have e : (lot.map (pt S)).filter (fun p => decide (dotM q.1 p = q.2)) = lot.map (pt S) := List.filter_eq_self.mpr fun j hj => decide_eq_true (tg j hj)
      rw [e] at z
      exact z
    have tne : 0 < (tightM S q).length := by
      have h1 := jsub.length_le
      have h2 := (mem_lots.mp hl).2
      rw [List.length_map] at h1
      have := hS.d1
      omega
    have t0m := pt_mem tne
    have t0S : pt (tightM S q) 0 ∈ S := (List.mem_filter.mp t0m).1
    have t0e : dotM q.1 (pt (tightM S q) 0) = q.2 := of_decide_eq_true (List.mem_filter.mp t0m).2
    have bl : (besideM d S q).length = d := by unfold besideM; rw [List.length_map, List.length_range]
    have be : dotM q.1 (besideM d S q) = q.2 + dotM q.1 q.1 := by
      have l0 := hS.len _ t0S
      have e : besideM d S q = List.zipWith (· + ·) (pt (tightM S q) 0) q.1 := by
        rw [← zip_range (g := (· + ·)) (by rw [l0, len]), l0]
        rfl
      rw [e, dotM_add (by rw [len, l0]) (by rw [l0, len]), t0e]
    obtain ⟨g, t, g0, ht, rel⟩ := con_rel hS hl hc
    have r := rel _ bl
    have pos : 0 < dotM q.1 q.1 := by
      obtain ⟨p1, p2⟩ := dotM_self q.1
      rcases Int.lt_or_eq_of_le p1 with h | h
      · exact h
      · exfalso
        have := gcdL_zero.mpr (p2 h.symm)
        omega
    have nz : Fm d (lot.map (pt S) ++ [besideM d S q]) ≠ 0 := fun z => by
      rw [z, Int.mul_zero] at r
      have := mul_zero_of g0 r
      omega
    have sub2 : (lot.map (pt S) ++ [besideM d S q]).Sublist (tightM S q ++ [besideM d S q]) := jsub.append (List.Sublist.refl _)
    obtain ⟨lot', h1, h2⟩ := sub_lot sub2
    have l1 : (tightM S q ++ [besideM d S q]).length = (tightM S q).length + 1 := by rw [List.length_append]; rfl
    have l2 : (lot.map (pt S) ++ [besideM d S q]).length = d + 1 := by rw [List.length_append, List.length_map, (mem_lots.mp hl).2]; rfl
    rw [l2] at h1
    have hlen : ∀ p ∈ tightM S q ++ [besideM d S q], p.length = d := fun p hp => by
      rcases List.mem_append.mp hp with hp | hp
      · exact hS.len p (List.mem_filter.mp hp).1
      · rw [List.mem_singleton.mp hp]
        exact bl
    refine ⟨lot', by rw [← l1]; exact h1, ?_⟩
    rw [det_Fm hS.d1 hS.d3 hlen (mem_lots.mp h1).2 (lots_lt h1), h2]
    exact nz

/-! ### in the hull -/
theorem range_pt (Q : List (List Int)) : (List.range Q.length).map (pt Q) = Q := by
  apply List.ext_getElem
  · simp
  · intro i h1 h2
    rw [List.getElem_map, List.getElem_range, pt, List.getD_eq_getElem?_getD, List.getElem?_eq_getElem h2]
    rfl
theorem turn_iff (hS : Shp d S) {p : List Int} (hp : p.length = d) {lot : List Nat} (hl : lot ∈ lots S.length (d + 1)) {k : Nat} (hk : k < d + 1) :
    turnM d S p lot k = true ↔ 0 ≤ Fm d (putAt (lot.map (pt S)) k p) * Fm d (lot.map (pt S)) := by
  have ll := (mem_lots.mp hl).2
  have hm : (lot.map (pt S)).length = d + 1 := by rw [List.length_map, ll]
  have hpl : (putAt (lot.map (pt S)) k p).length = d + 1 := by rw [putAt_len (by omega), hm]
  have hin : ∀ q ∈ putAt (lot.map (pt S)) k p, q.length = d := fun q hq => by
    rcases putAt_mem hq with rfl | hq
    · exact hp
    · exact hS.len q ((lot_sub hl).subset hq)
  unfold turnM
  rw [decide_eq_true_iff, det_Fm hS.d1 hS.d3 hin (by rw [List.length_range]) (fun j hj => by rw [hpl]; exact List.mem_range.mp hj), det_Fm hS.d1 hS.d3 hS.len ll (lots_lt hl)]
  have e := range_pt (putAt (lot.map (pt S)) k p)
  rw [hpl] at e
  rw [e]
theorem hull_iff (hS : Shp d S) {p : List Int} (hp : p.length = d) : hullM d S p = true ↔ Geo.Within (Fm d) d S p := by
  unfold hullM
  rw [List.any_eq_true]
  constructor
  · rintro ⟨lot, hl, h⟩
    obtain ⟨h1, h2⟩ := Bool.and_eq_true_iff.mp h
    have ll := (mem_lots.mp hl).2
    have hm : (lot.map (pt S)).length = d + 1 := by rw [List.length_map, ll]
    refine ⟨lot.map (pt S), lot_sub hl, hm, ?_, fun P x Q e => ?_⟩
    · rw [← det_Fm hS.d1 hS.d3 hS.len ll (lots_lt hl)]
      intro z
      rw [z] at h1
      simp [PyData.eqv] at h1
    · have hk : P.length < d + 1 := by
        have := congrArg List.length e
        rw [hm, List.length_append, List.length_cons] at this
        omega
      have t := (turn_iff hS hp hl hk).mp (List.all_eq_true.mp h2 _ (List.mem_range.mpr hk))
      have e2 : putAt (lot.map (pt S)) P.length p = P ++ p :: Q := by
        unfold putAt
        rw [e]
        simp
      rw [e2] at t
      exact t
  · rintro ⟨K, hK, kl, k0, k1⟩
    obtain ⟨lot, hl, e⟩ := sub_lot hK
    rw [kl] at hl
    have ll := (mem_lots.mp hl).2
    refine ⟨lot, hl, Bool.and_eq_true_iff.mpr ⟨?_, List.all_eq_true.mpr fun k hk => ?_⟩⟩
    · rw [det_Fm hS.d1 hS.d3 hS.len ll (lots_lt hl), e]
      simp [PyData.eqv, k0]
    · have hk := List.mem_range.mp hk
      rw [turn_iff hS hp hl hk, e]
      have hlt : k < K.length := by omega
      have sp : K = K.take k ++ K[k] :: K.drop (k + 1) := by
        have z := (List.take_append_drop k K).symm
        rw [List.drop_eq_getElem_cons hlt] at z
        exact z
      have t := k1 (K.take k) K[k] (K.drop (k + 1)) sp
      have e2 : putAt K k p = K.take k ++ p :: K.drop (k + 1) := by
        unfold putAt
        simp
      rw [e2]
      exact t
theorem full_K (hS : Shp d S) (hF : Full d S) : ∃ K : List (List Int), K.Sublist S ∧ K.length = d + 1 ∧ Fm d K ≠ 0 := by
  obtain ⟨lot, hl, hz⟩ := hF
  have ll := (mem_lots.mp hl).2
  refine ⟨lot.map (pt S), lot_sub hl, by rw [List.length_map, ll], ?_⟩
  rw [← det_Fm hS.d1 hS.d3 hS.len ll (lots_lt hl)]
  exact hz
theorem hull_facets (hS : Shp d S) (hF : Full d S) {p : List Int} (hp : p.length = d) : (∀ q ∈ facetsM d S, dotM q.1 p ≤ q.2) ↔ Geo.Within (Fm d) d S p := by
  constructor
  · intro h
    rcases Geo.weyl d (Fm d) (form_m hS.d1 hS.d3) S.length S rfl p (full_K hS hF) with w | ⟨J, s, hJ, jl, hs, j1, j2⟩
    · exact w
    · exfalso
      obtain ⟨lot, hl, e⟩ := sub_lot hJ
      rw [jl] at hl
      rw [← e] at j1 j2
      obtain ⟨q, g, hq, hg, rel⟩ := con_of hS hl hs j1 hp (by intro z; rw [z, Int.mul_zero] at j2; omega)
      have r := rel p hp
      have := h q hq
      rw [← r] at j2
      have : 0 ≤ g * (q.2 - dotM q.1 p) := Int.mul_nonneg (by omega) (by omega)
      omega
  · rintro ⟨K, hK, kl, hh⟩ q hq
    obtain ⟨lot, hl, hc⟩ := mem_facetsM.mp hq
    obtain ⟨g, t, hg, ht, rel⟩ := con_rel hS hl hc
    have hc' := hc
    obtain ⟨_, s, _, _, _, top⟩ := hc'
    have z := (form_m hS.d1 hS.d3).easy (s := t) kl (show (lot.map (pt S)).length = d by rw [List.length_map, (mem_lots.mp hl).2]) hh fun x hx => by
      have hxS := hK.subset hx
      rw [← rel x (hS.len x hxS)]
      have := top x hxS
      exact Int.mul_nonneg (by omega) (by omega)
    rw [← rel p hp] at z
    have := (mul_pos_iff' hg).mpr z
    omega
/-! ### a far point -/
theorem far_sum1 {D u v b0 x0 x1 : Int} (h : D ≠ 0) (hu : 0 ≤ u * D) (hv : 0 ≤ v * D) (e1 : D = u + v) (e2 : D * b0 = u * x0 + v * x1) (c0 : x0 < b0) (c1 : x1 < b0) : False := by
  have p := Geo.sq_pos h
  have k : (u * D) * (b0 - x0) + (v * D) * (b0 - x1) = 0 := by
    have : (u * D) * (b0 - x0) + (v * D) * (b0 - x1) = D * ((u + v) * b0 - (u * x0 + v * x1)) := by grind
    rw [this, ← e1, ← e2]
    grind
  have q0 := Int.mul_nonneg hu (show 0 ≤ b0 - x0 by omega)
  have q1 := Int.mul_nonneg hv (show 0 ≤ b0 - x1 by omega)
  have z0 : (b0 - x0) * (u * D) = 0 := by rw [Int.mul_comm]; omega
  have z1 : (b0 - x1) * (v * D) = 0 := by rw [Int.mul_comm]; omega
  have w0 := mul_zero_of (by omega) z0
  have w1 := mul_zero_of (by omega) z1
  have : D * D = u * D + v * D := by rw [← Int.add_mul, ← e1]
  omega
theorem not_far (hS : Shp d S) : ¬ Geo.Within (Fm d) d S (1000 :: List.replicate (d - 1) 0) := by
  rintro ⟨K, hK, kl, k0, k1⟩
  have lo : ∀ x ∈ K, Geo.co x 0 < 1000 := fun x hx => by
    have hxS := hK.subset hx
    have l := hS.len x hxS
    have d1 := hS.d1
    have m : Geo.co x 0 ∈ x := by
      unfold Geo.co
      rw [List.getD_eq_getElem?_getD, List.getElem?_eq_getElem (by omega)]
      exact List.getElem_mem _
    have := hS.box x hxS _ m
    omega
  match d, hS.d1, hS.d3, kl with
  | 1, _, _, kl =>
    obtain ⟨a, b, rfl⟩ := lot2 kl
    have h0 := k1 [] a [b] rfl
    have h1 := k1 [a] b [] rfl
    have la := lo a (by simp)
    have lb := lo b (by simp)
    refine far_sum1 (D := Fm 1 [a, b]) (b0 := 1000) k0 h0 h1 ?_ ?_ la lb
    · simp only [Fm, Geo.f1, List.nil_append, List.cons_append]
      omega
    · simp only [Fm, Geo.f1, List.nil_append, List.cons_append, Geo.co, List.getD_cons_zero]
      grind
  | 2, _, _, kl =>
    obtain ⟨a, b, c, rfl⟩ := lot3 kl
    have h0 := k1 [] a [b, c] rfl
    have h1 := k1 [a] b [c] rfl
    have h2 := k1 [a, b] c [] rfl
    have la := lo a (by simp)
    have lb := lo b (by simp)
    have lc := lo c (by simp)
    have e1 : ∀ p : List Int, Geo.f2 [a, b, c] = Geo.f2 [p, b, c] + Geo.f2 [a, p, c] + Geo.f2 [a, b, p] := fun p => by
      simp only [Geo.f2]
      grind
    have e2 : ∀ p : List Int, Geo.f2 [a, b, c] * Geo.co p 0 = Geo.f2 [p, b, c] * Geo.co a 0 + Geo.f2 [a, p, c] * Geo.co b 0 + Geo.f2 [a, b, p] * Geo.co c 0 := fun p => by
      simp only [Geo.f2]
      grind
    have e1 := e1 (1000 :: List.replicate (2 - 1) 0)
    have e2 := e2 (1000 :: List.replicate (2 - 1) 0)
    simp only [Fm, List.nil_append, List.cons_append] at h0 h1 h2 k0
    generalize Geo.f2 [a, b, c] = D at *
    generalize Geo.f2 [1000 :: List.replicate (2 - 1) 0, b, c] = u0 at *
    generalize Geo.f2 [a, 1000 :: List.replicate (2 - 1) 0, c] = u1 at *
    generalize Geo.f2 [a, b, 1000 :: List.replicate (2 - 1) 0] = u2 at *
    have eb : Geo.co (1000 :: List.replicate (2 - 1) 0) 0 = 1000 := rfl
    rw [eb] at e2
    generalize Geo.co a 0 = x0 at *
    generalize Geo.co b 0 = x1 at *
    generalize Geo.co c 0 = x2 at *
    have p := Geo.sq_pos k0
    have k : (u0 * D) * (1000 - x0) + (u1 * D) * (1000 - x1) + (u2 * D) * (1000 - x2) = 0 := by grind
    have q0 := Int.mul_nonneg h0 (show 0 ≤ 1000 - x0 by omega)
    have q1 := Int.mul_nonneg h1 (show 0 ≤ 1000 - x1 by omega)
    have q2 := Int.mul_nonneg h2 (show 0 ≤ 1000 - x2 by omega)
    have w0 := mul_zero_of (g := 1000 - x0) (u := u0 * D) (by omega) (by rw [Int.mul_comm]; omega)
    have w1 := mul_zero_of (g := 1000 - x1) (u := u1 * D) (by omega) (by rw [Int.mul_comm]; omega)
    have w2 := mul_zero_of (g := 1000 - x2) (u := u2 * D) (by omega) (by rw [Int.mul_comm]; omega)
    have : D * D = u0 * D + u1 * D + u2 * D := by rw [← Int.add_mul, ← Int.add_mul, ← e1]
    omega
  | 3, _, _, kl =>
    obtain ⟨a, b, c, e, rfl⟩ := lot4 kl
    have h0 := k1 [] a [b, c, e] rfl
    have h1 := k1 [a] b [c, e] rfl
    have h2 := k1 [a, b] c [e] rfl
    have h3 := k1 [a, b, c] e [] rfl
    have la := lo a (by simp)
    have lb := lo b (by simp)
    have lc := lo c (by simp)
    have le := lo e (by simp)
    have e1 := Geo.mix3 a b c e (1000 :: List.replicate (3 - 1) 0)
    have e2 := Geo.mixc3 0 (.inl rfl) a b c e (1000 :: List.replicate (3 - 1) 0)
    simp only [Fm, List.nil_append, List.cons_append] at h0 h1 h2 h3 k0
    generalize Geo.f3 [a, b, c, e] = D at *
    generalize Geo.f3 [1000 :: List.replicate (3 - 1) 0, b, c, e] = u0 at *
    generalize Geo.f3 [a, 1000 :: List.replicate (3 - 1) 0, c, e] = u1 at *
    generalize Geo.f3 [a, b, 1000 :: List.replicate (3 - 1) 0, e] = u2 at *
    generalize Geo.f3 [a, b, c, 1000 :: List.replicate (3 - 1) 0] = u3 at *
    have eb : Geo.co (1000 :: List.replicate (3 - 1) 0) 0 = 1000 := rfl
    rw [eb] at e2
    generalize Geo.co a 0 = x0 at *
    generalize Geo.co b 0 = x1 at *
    generalize Geo.co c 0 = x2 at *
    generalize Geo.co e 0 = x3 at *
    have p := Geo.sq_pos k0
    have k : (u0 * D) * (1000 - x0) + (u1 * D) * (1000 - x1) + (u2 * D) * (1000 - x2) + (u3 * D) * (1000 - x3) = 0 := by grind
    have q0 := Int.mul_nonneg h0 (show 0 ≤ 1000 - x0 by omega)
    have q1 := Int.mul_nonneg h1 (show 0 ≤ 1000 - x1 by omega)
    have q2 := Int.mul_nonneg h2 (show 0 ≤ 1000 - x2 by omega)
    have q3 := Int.mul_nonneg h3 (show 0 ≤ 1000 - x3 by omega)
    have w0 := mul_zero_of (g := 1000 - x0) (u := u0 * D) (by omega) (by rw [Int.mul_comm]; omega)
    have w1 := mul_zero_of (g := 1000 - x1) (u := u1 * D) (by omega) (by rw [Int.mul_comm]; omega)
    have w2 := mul_zero_of (g := 1000 - x2) (u := u2 * D) (by omega) (by rw [Int.mul_comm]; omega)
    have w3 := mul_zero_of (g := 1000 - x3) (u := u3 * D) (by omega) (by rw [Int.mul_comm]; omega)
    have : D * D = u0 * D + u1 * D + u2 * D + u3 * D := by rw [← Int.add_mul, ← Int.add_mul, ← Int.add_mul, ← e1]
    omega
/-- the plain law -/
theorem plain (hG : Good d S) : LawM d S := by
  obtain ⟨hS, hN, hF, n6⟩ := hG
  have nd : (facetsM d S).Nodup := by
    unfold facetsM
    exact (List.mergeSort_perm _ _).nodup_iff.mpr (facs_nd _)
  refine ⟨fun e => ?_, nd, ?_, fun q hq => facet_ok hS hq, fun p hp => by rw [hull_iff hS hp]; exact hull_facets hS hF hp, facets_same hS.d1⟩
  · have len : (1000 :: List.replicate (d - 1) (0 : Int)).length = d := by
      have := hS.d1
      simp
      omega
    exact not_far hS ((hull_facets hS hF len).mp fun q hq => by rw [e] at hq; cases hq)
  · unfold facetsM
    rw [List.length_mergeSort]
    have h1 := facs_len (d := d) (S := S) (lots S.length d)
    have h2 := lots_few S.length (by omega) d (by have := hS.d3; omega)
    have h3 : (lots S.length d).length ≤ 20 := by
      unfold lots
      rw [List.length_mergeSort]
      exact h2
    omega
end
end LW

/-! Where the defs stand behind the top; the end. -/
namespace LW
open PySem PySem.Spec PyProof.Rows L2
open Evl (Ex)
theorem ex_cal {P : Program} {w : World} {K : PySem.W.Frag} {mg : Str → Option Value} {base : Heap} {x : Str} {k : Nat} {f : Addr} {fd : FuncData} {ps : List Str} {sp : Sp} (h : CalAt P w K mg base x k f fd ps sp) : ∃ f fd, CalAt P w K mg base x k f fd ps sp := ⟨f, fd, h⟩
theorem all_mk {l : PySem.W.OpenLaw} {w : World} {K : PySem.W.Frag} {h : Heap} {mg : Str → Option Value} {fa f0 f1 f2 f3 f4 f5 f6 f7 f8 f9 f10 f11 f12 f13 f14 f15 f16 f17 f18 f19 f20 f21 f22 f23 f24 f25 f26 f27 f28 f29 f30 : Addr} (X : K.In h) (G : h.Ns mainGlobals mg) (hfa : mg "law" = some (.ref fa))
    {od0 an0 od1 an1 od2 an2 od3 an3 od4 an4 od5 an5 od6 an6 od7 an7 od8 an8 od9 an9 od10 an10 od11 an11 od12 an12 od13 an13 od14 an14 od15 an15 od16 an16 od17 an17 od18 an18 od19 an19 od20 an20 od21 an21 od22 an22 od23 an23 od24 an24 od25 an25 od26 an26 od27 an27 od28 an28 od29 an29 od30 an30 : Option Addr} {sl0 sl1 sl2 sl3 sl4 sl5 sl6 sl7 sl8 sl9 sl10 sl11 sl12 sl13 sl14 sl15 sl16 sl17 sl18 sl19 sl20 sl21 sl22 sl23 sl24 sl25 sl26 sl27 sl28 sl29 sl30 : Array (Option Value)} {oc0 kV0 dc0 pm0 cd0 ct0 oc1 kV1 dc1 pm1 cd1 ct1 oc2 kV2 dc2 pm2 cd2 ct2 oc3 kV3 dc3 pm3 cd3 ct3 oc4 kV4 dc4 pm4 cd4 ct4 oc5 kV5 dc5 pm5 cd5 ct5 oc6 kV6 dc6 pm6 cd6 ct6 oc7 kV7 dc7 pm7 cd7 ct7 oc8 kV8 dc8 pm8 cd8 ct8 oc9 kV9 dc9 pm9 cd9 ct9 oc10 kV10 dc10 pm10 cd10 ct10 oc11 kV11 dc11 pm11 cd11 ct11 oc12 kV12 dc12 pm12 cd12 ct12 oc13 kV13 dc13 pm13 cd13 ct13 oc14 kV14 dc14 pm14 cd14 ct14 oc15 kV15 dc15 pm15 cd15 ct15 oc16 kV16 dc16 pm16 cd16 ct16 oc17 kV17 dc17 pm17 cd17 ct17 oc18 kV18 dc18 pm18 cd18 ct18 oc19 kV19 dc19 pm19 cd19 ct19 oc20 kV20 dc20 pm20 cd20 ct20 oc21 kV21 dc21 pm21 cd21 ct21 oc22 kV22 dc22 pm22 cd22 ct22 oc23 kV23 dc23 pm23 cd23 ct23 oc24 kV24 dc24 pm24 cd24 ct24 oc25 kV25 dc25 pm25 cd25 ct25 oc26 kV26 dc26 pm26 cd26 ct26 oc27 kV27 dc27 pm27 cd27 ct27 oc28 kV28 dc28 pm28 cd28 ct28 oc29 kV29 dc29 pm29 cd29 ct29 oc30 kV30 dc30 pm30 cd30 ct30 : Value} {tFar tMost : Tok}
    (a0 : PySem.W.nsIn K mainGlobals "is_in" = some (some (.ref f0))) (l0 : K.lookup f0 = some ⟨oc0, od0, .func (PySem.W.fnOf "is_in" "is_in" (defArgs st_is_in) (defBody st_is_in) (defScope st_is_in) .none kV0 dc0 pm0 an0 cd0 ct0), sl0⟩) (c0 : PySem.W.codeIn K cd0 "is_in" = true) (k0 : PySem.W.keepIn K (.ref f0) = true)
    (a1 : PySem.W.nsIn K mainGlobals "gcd" = some (some (.ref f1))) (l1 : K.lookup f1 = some ⟨oc1, od1, .func (PySem.W.fnOf "gcd" "gcd" (defArgs st_gcd) (defBody st_gcd) (defScope st_gcd) .none kV1 dc1 pm1 an1 cd1 ct1), sl1⟩) (c1 : PySem.W.codeIn K cd1 "gcd" = true) (k1 : PySem.W.keepIn K (.ref f1) = true)
    (a2 : PySem.W.nsIn K mainGlobals "dot" = some (some (.ref f2))) (l2 : K.lookup f2 = some ⟨oc2, od2, .func (PySem.W.fnOf "dot" "dot" (defArgs st_dot) (defBody st_dot) (defScope st_dot) .none kV2 dc2 pm2 an2 cd2 ct2), sl2⟩) (c2 : PySem.W.codeIn K cd2 "dot" = true) (k2 : PySem.W.keepIn K (.ref f2) = true)
    (a3 : PySem.W.nsIn K mainGlobals "less" = some (some (.ref f3))) (l3 : K.lookup f3 = some ⟨oc3, od3, .func (PySem.W.fnOf "less" "less" (defArgs st_less) (defBody st_less) (defScope st_less) .none kV3 dc3 pm3 an3 cd3 ct3), sl3⟩) (c3 : PySem.W.codeIn K cd3 "less" = true) (k3 : PySem.W.keepIn K (.ref f3) = true)
    (a4 : PySem.W.nsIn K mainGlobals "scaled" = some (some (.ref f4))) (l4 : K.lookup f4 = some ⟨oc4, od4, .func (PySem.W.fnOf "scaled" "scaled" (defArgs st_scaled) (defBody st_scaled) (defScope st_scaled) .none kV4 dc4 pm4 an4 cd4 ct4), sl4⟩) (c4 : PySem.W.codeIn K cd4 "scaled" = true) (k4 : PySem.W.keepIn K (.ref f4) = true)
    (a5 : PySem.W.nsIn K mainGlobals "determinant" = some (some (.ref f5))) (l5 : K.lookup f5 = some ⟨oc5, od5, .func (PySem.W.fnOf "determinant" "determinant" (defArgs st_determinant) (defBody st_determinant) (defScope st_determinant) .none kV5 dc5 pm5 an5 cd5 ct5), sl5⟩) (c5 : PySem.W.codeIn K cd5 "determinant" = true) (k5 : PySem.W.keepIn K (.ref f5) = true)
    (a6 : PySem.W.nsIn K mainGlobals "subsets" = some (some (.ref f6))) (l6 : K.lookup f6 = some ⟨oc6, od6, .func (PySem.W.fnOf "subsets" "subsets" (defArgs st_subsets) (defBody st_subsets) (defScope st_subsets) .none kV6 dc6 pm6 an6 cd6 ct6), sl6⟩) (c6 : PySem.W.codeIn K cd6 "subsets" = true) (k6 : PySem.W.keepIn K (.ref f6) = true)
    (a7 : PySem.W.nsIn K mainGlobals "normal_to" = some (some (.ref f7))) (l7 : K.lookup f7 = some ⟨oc7, od7, .func (PySem.W.fnOf "normal_to" "normal_to" (defArgs st_normal_to) (defBody st_normal_to) (defScope st_normal_to) .none kV7 dc7 pm7 an7 cd7 ct7), sl7⟩) (c7 : PySem.W.codeIn K cd7 "normal_to" = true) (k7 : PySem.W.keepIn K (.ref f7) = true)
    (a8 : PySem.W.nsIn K mainGlobals "primitive" = some (some (.ref f8))) (l8 : K.lookup f8 = some ⟨oc8, od8, .func (PySem.W.fnOf "primitive" "primitive" (defArgs st_primitive) (defBody st_primitive) (defScope st_primitive) .none kV8 dc8 pm8 an8 cd8 ct8), sl8⟩) (c8 : PySem.W.codeIn K cd8 "primitive" = true) (k8 : PySem.W.keepIn K (.ref f8) = true)
    (a9 : PySem.W.nsIn K mainGlobals "is_vector" = some (some (.ref f9))) (l9 : K.lookup f9 = some ⟨oc9, od9, .func (PySem.W.fnOf "is_vector" "is_vector" (defArgs st_is_vector) (defBody st_is_vector) (defScope st_is_vector) .none kV9 dc9 pm9 an9 cd9 ct9), sl9⟩) (c9 : PySem.W.codeIn K cd9 "is_vector" = true) (k9 : PySem.W.keepIn K (.ref f9) = true)
    (a10 : PySem.W.nsIn K mainGlobals "ways_from" = some (some (.ref f10))) (l10 : K.lookup f10 = some ⟨oc10, od10, .func (PySem.W.fnOf "ways_from" "ways_from" (defArgs st_ways_from) (defBody st_ways_from) (defScope st_ways_from) .none kV10 dc10 pm10 an10 cd10 ct10), sl10⟩) (c10 : PySem.W.codeIn K cd10 "ways_from" = true) (k10 : PySem.W.keepIn K (.ref f10) = true)
    (a11 : PySem.W.nsIn K mainGlobals "need_items" = some (some (.ref f11))) (l11 : K.lookup f11 = some ⟨oc11, od11, .func (PySem.W.fnOf "need_items" "need_items" (defArgs st_need_items) (defBody st_need_items) (defScope st_need_items) .none kV11 dc11 pm11 an11 cd11 ct11), sl11⟩) (c11 : PySem.W.codeIn K cd11 "need_items" = true) (k11 : PySem.W.keepIn K (.ref f11) = true)
    (a12 : PySem.W.nsIn K mainGlobals "need_shape" = some (some (.ref f12))) (l12 : K.lookup f12 = some ⟨oc12, od12, .func (PySem.W.fnOf "need_shape" "need_shape" (defArgs st_need_shape) (defBody st_need_shape) (defScope st_need_shape) .none kV12 dc12 pm12 an12 cd12 ct12), sl12⟩) (c12 : PySem.W.codeIn K cd12 "need_shape" = true) (k12 : PySem.W.keepIn K (.ref f12) = true)
    (a13 : PySem.W.nsIn K mainGlobals "facets_of" = some (some (.ref f13))) (l13 : K.lookup f13 = some ⟨oc13, od13, .func (PySem.W.fnOf "facets_of" "facets_of" (defArgs st_facets_of) (defBody st_facets_of) (defScope st_facets_of) .none kV13 dc13 pm13 an13 cd13 ct13), sl13⟩) (c13 : PySem.W.codeIn K cd13 "facets_of" = true) (k13 : PySem.W.keepIn K (.ref f13) = true)
    (a14 : PySem.W.nsIn K mainGlobals "facets" = some (some (.ref f14))) (l14 : K.lookup f14 = some ⟨oc14, od14, .func (PySem.W.fnOf "facets" "facets" (defArgs st_facets) (defBody st_facets) (defScope st_facets) .none kV14 dc14 pm14 an14 cd14 ct14), sl14⟩) (c14 : PySem.W.codeIn K cd14 "facets" = true) (k14 : PySem.W.keepIn K (.ref f14) = true)
    (a15 : PySem.W.nsIn K mainGlobals "_law_taken" = some (some (.ref f15))) (l15 : K.lookup f15 = some ⟨oc15, od15, .func (PySem.W.fnOf "_law_taken" "_law_taken" (defArgs st__law_taken) (defBody st__law_taken) (defScope st__law_taken) .none kV15 dc15 pm15 an15 cd15 ct15), sl15⟩) (c15 : PySem.W.codeIn K cd15 "_law_taken" = true) (k15 : PySem.W.keepIn K (.ref f15) = true)
    (a16 : PySem.W.nsIn K mainGlobals "_law_signed" = some (some (.ref f16))) (l16 : K.lookup f16 = some ⟨oc16, od16, .func (PySem.W.fnOf "_law_signed" "_law_signed" (defArgs st__law_signed) (defBody st__law_signed) (defScope st__law_signed) .none kV16 dc16 pm16 an16 cd16 ct16), sl16⟩) (c16 : PySem.W.codeIn K cd16 "_law_signed" = true) (k16 : PySem.W.keepIn K (.ref f16) = true)
    (a17 : PySem.W.nsIn K mainGlobals "_law_subsets" = some (some (.ref f17))) (l17 : K.lookup f17 = some ⟨oc17, od17, .func (PySem.W.fnOf "_law_subsets" "_law_subsets" (defArgs st__law_subsets) (defBody st__law_subsets) (defScope st__law_subsets) .none kV17 dc17 pm17 an17 cd17 ct17), sl17⟩) (c17 : PySem.W.codeIn K cd17 "_law_subsets" = true) (k17 : PySem.W.keepIn K (.ref f17) = true)
    (a18 : PySem.W.nsIn K mainGlobals "_law_determinant" = some (some (.ref f18))) (l18 : K.lookup f18 = some ⟨oc18, od18, .func (PySem.W.fnOf "_law_determinant" "_law_determinant" (defArgs st__law_determinant) (defBody st__law_determinant) (defScope st__law_determinant) .none kV18 dc18 pm18 an18 cd18 ct18), sl18⟩) (c18 : PySem.W.codeIn K cd18 "_law_determinant" = true) (k18 : PySem.W.keepIn K (.ref f18) = true)
    (a19 : PySem.W.nsIn K mainGlobals "_law_ways" = some (some (.ref f19))) (l19 : K.lookup f19 = some ⟨oc19, od19, .func (PySem.W.fnOf "_law_ways" "_law_ways" (defArgs st__law_ways) (defBody st__law_ways) (defScope st__law_ways) .none kV19 dc19 pm19 an19 cd19 ct19), sl19⟩) (c19 : PySem.W.codeIn K cd19 "_law_ways" = true) (k19 : PySem.W.keepIn K (.ref f19) = true)
    (a20 : PySem.W.nsIn K mainGlobals "_law_span" = some (some (.ref f20))) (l20 : K.lookup f20 = some ⟨oc20, od20, .func (PySem.W.fnOf "_law_span" "_law_span" (defArgs st__law_span) (defBody st__law_span) (defScope st__law_span) .none kV20 dc20 pm20 an20 cd20 ct20), sl20⟩) (c20 : PySem.W.codeIn K cd20 "_law_span" = true) (k20 : PySem.W.keepIn K (.ref f20) = true)
    (a21 : PySem.W.nsIn K mainGlobals "_law_shape" = some (some (.ref f21))) (l21 : K.lookup f21 = some ⟨oc21, od21, .func (PySem.W.fnOf "_law_shape" "_law_shape" (defArgs st__law_shape) (defBody st__law_shape) (defScope st__law_shape) .none kV21 dc21 pm21 an21 cd21 ct21), sl21⟩) (c21 : PySem.W.codeIn K cd21 "_law_shape" = true) (k21 : PySem.W.keepIn K (.ref f21) = true)
    (a22 : PySem.W.nsIn K mainGlobals "_law_is_vector" = some (some (.ref f22))) (l22 : K.lookup f22 = some ⟨oc22, od22, .func (PySem.W.fnOf "_law_is_vector" "_law_is_vector" (defArgs st__law_is_vector) (defBody st__law_is_vector) (defScope st__law_is_vector) .none kV22 dc22 pm22 an22 cd22 ct22), sl22⟩) (c22 : PySem.W.codeIn K cd22 "_law_is_vector" = true) (k22 : PySem.W.keepIn K (.ref f22) = true)
    (a23 : PySem.W.nsIn K mainGlobals "_law_gcd" = some (some (.ref f23))) (l23 : K.lookup f23 = some ⟨oc23, od23, .func (PySem.W.fnOf "_law_gcd" "_law_gcd" (defArgs st__law_gcd) (defBody st__law_gcd) (defScope st__law_gcd) .none kV23 dc23 pm23 an23 cd23 ct23), sl23⟩) (c23 : PySem.W.codeIn K cd23 "_law_gcd" = true) (k23 : PySem.W.keepIn K (.ref f23) = true)
    (a24 : PySem.W.nsIn K mainGlobals "_law_dot" = some (some (.ref f24))) (l24 : K.lookup f24 = some ⟨oc24, od24, .func (PySem.W.fnOf "_law_dot" "_law_dot" (defArgs st__law_dot) (defBody st__law_dot) (defScope st__law_dot) .none kV24 dc24 pm24 an24 cd24 ct24), sl24⟩) (c24 : PySem.W.codeIn K cd24 "_law_dot" = true) (k24 : PySem.W.keepIn K (.ref f24) = true)
    (a25 : PySem.W.nsIn K mainGlobals "_law_box" = some (some (.ref f25))) (l25 : K.lookup f25 = some ⟨oc25, od25, .func (PySem.W.fnOf "_law_box" "_law_box" (defArgs st__law_box) (defBody st__law_box) (defScope st__law_box) .none kV25 dc25 pm25 an25 cd25 ct25), sl25⟩) (c25 : PySem.W.codeIn K cd25 "_law_box" = true) (k25 : PySem.W.keepIn K (.ref f25) = true)
    (a26 : PySem.W.nsIn K mainGlobals "_law_place" = some (some (.ref f26))) (l26 : K.lookup f26 = some ⟨oc26, od26, .func (PySem.W.fnOf "_law_place" "_law_place" (defArgs st__law_place) (defBody st__law_place) (defScope st__law_place) .none kV26 dc26 pm26 an26 cd26 ct26), sl26⟩) (c26 : PySem.W.codeIn K cd26 "_law_place" = true) (k26 : PySem.W.keepIn K (.ref f26) = true)
    (a27 : PySem.W.nsIn K mainGlobals "_law_in_hull" = some (some (.ref f27))) (l27 : K.lookup f27 = some ⟨oc27, od27, .func (PySem.W.fnOf "_law_in_hull" "_law_in_hull" (defArgs st__law_in_hull) (defBody st__law_in_hull) (defScope st__law_in_hull) .none kV27 dc27 pm27 an27 cd27 ct27), sl27⟩) (c27 : PySem.W.codeIn K cd27 "_law_in_hull" = true) (k27 : PySem.W.keepIn K (.ref f27) = true)
    (a28 : PySem.W.nsIn K mainGlobals "_law_alike" = some (some (.ref f28))) (l28 : K.lookup f28 = some ⟨oc28, od28, .func (PySem.W.fnOf "_law_alike" "_law_alike" (defArgs st__law_alike) (defBody st__law_alike) (defScope st__law_alike) .none kV28 dc28 pm28 an28 cd28 ct28), sl28⟩) (c28 : PySem.W.codeIn K cd28 "_law_alike" = true) (k28 : PySem.W.keepIn K (.ref f28) = true)
    (a29 : PySem.W.nsIn K mainGlobals "_law_facets" = some (some (.ref f29))) (l29 : K.lookup f29 = some ⟨oc29, od29, .func (PySem.W.fnOf "_law_facets" "_law_facets" (defArgs st__law_facets) (defBody st__law_facets) (defScope st__law_facets) .none kV29 dc29 pm29 an29 cd29 ct29), sl29⟩) (c29 : PySem.W.codeIn K cd29 "_law_facets" = true) (k29 : PySem.W.keepIn K (.ref f29) = true)
    (a30 : PySem.W.nsIn K mainGlobals "law" = some (some (.ref f30))) (l30 : K.lookup f30 = some ⟨oc30, od30, .func (PySem.W.fnOf "law" "law" (defArgs st_law) (defBody st_law) (defScope st_law) .none kV30 dc30 pm30 an30 cd30 ct30), sl30⟩) (c30 : PySem.W.codeIn K cd30 "law" = true) (k30 : PySem.W.keepIn K (.ref f30) = true)
    (z_len : PySem.W.nsIn K mainGlobals "len" = some none)
    (z_sum : PySem.W.nsIn K mainGlobals "sum" = some none)
    (z_zip : PySem.W.nsIn K mainGlobals "zip" = some none)
    (z_tuple : PySem.W.nsIn K mainGlobals "tuple" = some none)
    (z_list : PySem.W.nsIn K mainGlobals "list" = some none)
    (z_range : PySem.W.nsIn K mainGlobals "range" = some none)
    (z_isinstance : PySem.W.nsIn K mainGlobals "isinstance" = some none)
    (z_int : PySem.W.nsIn K mainGlobals "int" = some none)
    (z_bool : PySem.W.nsIn K mainGlobals "bool" = some none)
    (z_str : PySem.W.nsIn K mainGlobals "str" = some none)
    (z_abs : PySem.W.nsIn K mainGlobals "abs" = some none)
    (z_sorted : PySem.W.nsIn K mainGlobals "sorted" = some none)
    (z_set : PySem.W.nsIn K mainGlobals "set" = some none)
    (z_max : PySem.W.nsIn K mainGlobals "max" = some none)
    (z_min : PySem.W.nsIn K mainGlobals "min" = some none)
    (gF : PySem.W.nsIn K mainGlobals "FAR" = some (some (.int 50 tFar))) (gM : PySem.W.nsIn K mainGlobals "MOST_POINTS" = some (some (.int 12 tMost))) :
    ∃ fd : FuncData, (∀ (s : Shared) (v : Value), BindsTo s fd ⟨[v], []⟩ [("_law_script", v)]) ∧ ∀ base : Heap, K.In base → base.Ns mainGlobals mg → FnOk l.prog w K mg base CX0 7 fa fd ["_law_script"] (spL K) := by
  have e := hfa.symm.trans (PySem.W.mg_of X G a30)
  cases e
  have T : Txt mg := ⟨PySem.W.mg_none_of X G z_len, PySem.W.mg_none_of X G z_sum, PySem.W.mg_none_of X G z_zip, PySem.W.mg_none_of X G z_tuple, PySem.W.mg_none_of X G z_list, PySem.W.mg_none_of X G z_range, PySem.W.mg_none_of X G z_isinstance, PySem.W.mg_none_of X G z_int, PySem.W.mg_none_of X G z_bool, PySem.W.mg_none_of X G z_str, PySem.W.mg_none_of X G z_abs, PySem.W.mg_none_of X G z_sorted, PySem.W.mg_none_of X G z_set, PySem.W.mg_none_of X G z_max, PySem.W.mg_none_of X G z_min, ⟨_, PySem.W.mg_of X G gF⟩, ⟨_, PySem.W.mg_of X G gM⟩⟩
  have D_is_in : Stands K mg "is_in" st_is_in f0 _ := ⟨fun_mk (st := st_is_in) l0 c0 k0, PySem.W.mg_of X G a0⟩
  have D_gcd : Stands K mg "gcd" st_gcd f1 _ := ⟨fun_mk (st := st_gcd) l1 c1 k1, PySem.W.mg_of X G a1⟩
  have D_dot : Stands K mg "dot" st_dot f2 _ := ⟨fun_mk (st := st_dot) l2 c2 k2, PySem.W.mg_of X G a2⟩
  have D_less : Stands K mg "less" st_less f3 _ := ⟨fun_mk (st := st_less) l3 c3 k3, PySem.W.mg_of X G a3⟩
  have D_scaled : Stands K mg "scaled" st_scaled f4 _ := ⟨fun_mk (st := st_scaled) l4 c4 k4, PySem.W.mg_of X G a4⟩
  have D_determinant : Stands K mg "determinant" st_determinant f5 _ := ⟨fun_mk (st := st_determinant) l5 c5 k5, PySem.W.mg_of X G a5⟩
  have D_subsets : Stands K mg "subsets" st_subsets f6 _ := ⟨fun_mk (st := st_subsets) l6 c6 k6, PySem.W.mg_of X G a6⟩
  have D_normal_to : Stands K mg "normal_to" st_normal_to f7 _ := ⟨fun_mk (st := st_normal_to) l7 c7 k7, PySem.W.mg_of X G a7⟩
  have D_primitive : Stands K mg "primitive" st_primitive f8 _ := ⟨fun_mk (st := st_primitive) l8 c8 k8, PySem.W.mg_of X G a8⟩
  have D_is_vector : Stands K mg "is_vector" st_is_vector f9 _ := ⟨fun_mk (st := st_is_vector) l9 c9 k9, PySem.W.mg_of X G a9⟩
  have D_ways_from : Stands K mg "ways_from" st_ways_from f10 _ := ⟨fun_mk (st := st_ways_from) l10 c10 k10, PySem.W.mg_of X G a10⟩
  have D_need_items : Stands K mg "need_items" st_need_items f11 _ := ⟨fun_mk (st := st_need_items) l11 c11 k11, PySem.W.mg_of X G a11⟩
  have D_need_shape : Stands K mg "need_shape" st_need_shape f12 _ := ⟨fun_mk (st := st_need_shape) l12 c12 k12, PySem.W.mg_of X G a12⟩
  have D_facets_of : Stands K mg "facets_of" st_facets_of f13 _ := ⟨fun_mk (st := st_facets_of) l13 c13 k13, PySem.W.mg_of X G a13⟩
  have D_facets : Stands K mg "facets" st_facets f14 _ := ⟨fun_mk (st := st_facets) l14 c14 k14, PySem.W.mg_of X G a14⟩
  have D__law_taken : Stands K mg "_law_taken" st__law_taken f15 _ := ⟨fun_mk (st := st__law_taken) l15 c15 k15, PySem.W.mg_of X G a15⟩
  have D__law_signed : Stands K mg "_law_signed" st__law_signed f16 _ := ⟨fun_mk (st := st__law_signed) l16 c16 k16, PySem.W.mg_of X G a16⟩
  have D__law_subsets : Stands K mg "_law_subsets" st__law_subsets f17 _ := ⟨fun_mk (st := st__law_subsets) l17 c17 k17, PySem.W.mg_of X G a17⟩
  have D__law_determinant : Stands K mg "_law_determinant" st__law_determinant f18 _ := ⟨fun_mk (st := st__law_determinant) l18 c18 k18, PySem.W.mg_of X G a18⟩
  have D__law_ways : Stands K mg "_law_ways" st__law_ways f19 _ := ⟨fun_mk (st := st__law_ways) l19 c19 k19, PySem.W.mg_of X G a19⟩
  have D__law_span : Stands K mg "_law_span" st__law_span f20 _ := ⟨fun_mk (st := st__law_span) l20 c20 k20, PySem.W.mg_of X G a20⟩
  have D__law_shape : Stands K mg "_law_shape" st__law_shape f21 _ := ⟨fun_mk (st := st__law_shape) l21 c21 k21, PySem.W.mg_of X G a21⟩
  have D__law_is_vector : Stands K mg "_law_is_vector" st__law_is_vector f22 _ := ⟨fun_mk (st := st__law_is_vector) l22 c22 k22, PySem.W.mg_of X G a22⟩
  have D__law_gcd : Stands K mg "_law_gcd" st__law_gcd f23 _ := ⟨fun_mk (st := st__law_gcd) l23 c23 k23, PySem.W.mg_of X G a23⟩
  have D__law_dot : Stands K mg "_law_dot" st__law_dot f24 _ := ⟨fun_mk (st := st__law_dot) l24 c24 k24, PySem.W.mg_of X G a24⟩
  have D__law_box : Stands K mg "_law_box" st__law_box f25 _ := ⟨fun_mk (st := st__law_box) l25 c25 k25, PySem.W.mg_of X G a25⟩
  have D__law_place : Stands K mg "_law_place" st__law_place f26 _ := ⟨fun_mk (st := st__law_place) l26 c26 k26, PySem.W.mg_of X G a26⟩
  have D__law_in_hull : Stands K mg "_law_in_hull" st__law_in_hull f27 _ := ⟨fun_mk (st := st__law_in_hull) l27 c27 k27, PySem.W.mg_of X G a27⟩
  have D__law_alike : Stands K mg "_law_alike" st__law_alike f28 _ := ⟨fun_mk (st := st__law_alike) l28 c28 k28, PySem.W.mg_of X G a28⟩
  have D__law_facets : Stands K mg "_law_facets" st__law_facets f29 _ := ⟨fun_mk (st := st__law_facets) l29 c29 k29, PySem.W.mg_of X G a29⟩
  refine ⟨PySem.W.fnOf "law" "law" (defArgs st_law) (defBody st_law) (defScope st_law) .none kV30 dc30 pm30 an30 cd30 ct30, fun s v => .of_eq rfl, fun base _ _ => ?_⟩
  have C_is_in := ex_cal ((ok_is_in (P := l.prog) (w := w) (K := K) (base := base) T  D_is_in))
  have C_gcd := ex_cal ((ok_gcd (P := l.prog) (w := w) (K := K) (base := base) T  D_gcd))
  have C_dot := ex_cal ((ok_dot (P := l.prog) (w := w) (K := K) (base := base) T  D_dot))
  have C_less := ex_cal ((ok_less (P := l.prog) (w := w) (K := K) (base := base) T  D_less))
  have C_scaled := ex_cal ((ok_scaled (P := l.prog) (w := w) (K := K) (base := base) T  D_scaled))
  have C_primitive := ex_cal ((ok_primitive (P := l.prog) (w := w) (K := K) (base := base) T C_gcd D_primitive))
  have C_is_vector := ex_cal ((ok_is_vector (P := l.prog) (w := w) (K := K) (base := base) T C_is_in D_is_vector))
  have C_ways_from := ex_cal ((ok_ways_from (P := l.prog) (w := w) (K := K) (base := base) T C_less D_ways_from))
  have C_determinant := ex_cal ((ok_determinant (P := l.prog) (w := w) (K := K) (base := base) T D_determinant (ok_det2 T D_determinant (no_call D_determinant.gl D_determinant.fn.kp (D_determinant.fn.binds fun _ _ _ _ _ _ us hl => match us, hl with | [_], _ => rfl)))))
  have C_subsets := ex_cal ((ok_subsets (P := l.prog) (w := w) (K := K) (base := base) T  D_subsets))
  have C_normal_to := ex_cal ((ok_normal_to (P := l.prog) (w := w) (K := K) (base := base) T C_determinant D_normal_to))
  have C_need_items := ex_cal ((ok_need_items (P := l.prog) (w := w) (K := K) (base := base) T C_is_vector D_need_items))
  have C_need_shape := ex_cal ((ok_need_shape (P := l.prog) (w := w) (K := K) (base := base) T C_need_items C_subsets C_determinant C_ways_from D_need_shape))
  have C_facets_of := ex_cal ((ok_facets_of (P := l.prog) (w := w) (K := K) (base := base) T C_dot C_scaled C_subsets C_primitive C_normal_to C_ways_from D_facets_of))
  have C_facets := ex_cal ((ok_facets (P := l.prog) (w := w) (K := K) (base := base) T C_need_shape C_facets_of D_facets))
  have C__law_gcd := ex_cal ((ok__law_gcd (P := l.prog) (w := w) (K := K) (base := base) T  D__law_gcd))
  have C__law_dot := ex_cal ((ok__law_dot (P := l.prog) (w := w) (K := K) (base := base) T  D__law_dot))
  have C__law_is_vector := ex_cal ((ok__law_is_vector (P := l.prog) (w := w) (K := K) (base := base) T  D__law_is_vector))
  have C__law_determinant := ex_cal ((ok__law_determinant (P := l.prog) (w := w) (K := K) (base := base) T  D__law_determinant))
  have C__law_subsets := ex_cal ((ok__law_subsets (P := l.prog) (w := w) (K := K) (base := base) T  D__law_subsets))
  have C__law_waysTT := ex_cal ((ok__law_waysTT (P := l.prog) (w := w) (K := K) (base := base) T  D__law_ways))
  have C__law_spanTT := ex_cal ((ok__law_spanTT (P := l.prog) (w := w) (K := K) (base := base) T C__law_waysTT C__law_determinant D__law_span))
  have C__law_waysLT := ex_cal ((ok__law_waysLT (P := l.prog) (w := w) (K := K) (base := base) T  D__law_ways))
  have C__law_spanLT := ex_cal ((ok__law_spanLT (P := l.prog) (w := w) (K := K) (base := base) T C__law_waysLT C__law_determinant D__law_span))
  have C__law_waysLL := ex_cal ((ok__law_waysLL (P := l.prog) (w := w) (K := K) (base := base) T  D__law_ways))
  have C__law_spanLL := ex_cal ((ok__law_spanLL (P := l.prog) (w := w) (K := K) (base := base) T C__law_waysLL C__law_determinant D__law_span))
  have C__law_box := ex_cal ((ok__law_box (P := l.prog) (w := w) (K := K) (base := base) T  D__law_box))
  have C__law_place := ex_cal ((ok__law_place (P := l.prog) (w := w) (K := K) (base := base) T C__law_dot D__law_place))
  have C__law_in_hull := ex_cal ((ok__law_in_hull (P := l.prog) (w := w) (K := K) (base := base) T C__law_subsets C__law_spanTT C__law_spanLL D__law_in_hull))
  have C__law_facets := ex_cal ((ok__law_facets (P := l.prog) (w := w) (K := K) (base := base) T C__law_subsets C__law_waysTT C__law_determinant C__law_gcd C__law_dot D__law_facets))
  have C__law_alike := ex_cal ((ok_alike (P := l.prog) (w := w) (K := K) (base := base) T D__law_alike 3))
  have C__law_taken := fun (sc : Addr) (script : List Int) (hl : script.length ≤ 1000000) => ex_cal ((ok__law_taken (P := l.prog) (w := w) (K := K) (base := base) T sc script hl D__law_taken))
  have C__law_shape := fun (sc : Addr) (script : List Int) (hl : script.length ≤ 1000000) => ex_cal ((ok__law_shape (P := l.prog) (w := w) (K := K) (base := base) T sc script (C__law_taken sc script hl) (ex_cal ((ok__law_signed (P := l.prog) (w := w) (K := K) (base := base) T sc script (C__law_taken sc script hl) D__law_signed))) C__law_subsets C__law_spanLT D__law_shape))
  exact ok_law T (fun d S hG => plain hG) C__law_taken C__law_shape C_facets C__law_is_vector C__law_gcd C__law_dot C__law_subsets C__law_spanLT C__law_box C__law_place C__law_in_hull C__law_alike C__law_facets (fun_mk (st := st_law) l30 c30 k30)
end LW
open PySem PySem.W PyProof.Rows
set_option maxHeartbeats 0 in
set_option maxRecDepth 100000 in
theorem PySem.Challenge.cw_latticepoints_k09_whole_facets_holds : PySem.Challenge.rw_latticepoints_k09_whole_facets.Holds := by
  w_on; o_law; k_head; (case hw => w_witness2)
  k_fill
  refine L2.walk_of (l := PySem.Challenge.rw_latticepoints_k09_whole_facets) (n := 63) (k := 7) (x := "_law_script") (CX := fun _ => L2.CX0) (sp := fun w => LW.spL _) rfl (by decide) rfl ⟨rfl, by decide, by decide⟩ (fun w h Y => PySem.W.kIn_of Y) ?F (fun _ _ a ns hl _ hS => ⟨a, ns, rfl, hS, hl, fun _ => rfl⟩) (fun _ _ _ _ _ h => h)
  case F =>
    intro w mg fa h KX G hmg
    refine' LW.all_mk KX G hmg ?a0 ?l0 ?c0 ?k0 ?a1 ?l1 ?c1 ?k1 ?a2 ?l2 ?c2 ?k2 ?a3 ?l3 ?c3 ?k3 ?a4 ?l4 ?c4 ?k4 ?a5 ?l5 ?c5 ?k5 ?a6 ?l6 ?c6 ?k6 ?a7 ?l7 ?c7 ?k7 ?a8 ?l8 ?c8 ?k8 ?a9 ?l9 ?c9 ?k9 ?a10 ?l10 ?c10 ?k10 ?a11 ?l11 ?c11 ?k11 ?a12 ?l12 ?c12 ?k12 ?a13 ?l13 ?c13 ?k13 ?a14 ?l14 ?c14 ?k14 ?a15 ?l15 ?c15 ?k15 ?a16 ?l16 ?c16 ?k16 ?a17 ?l17 ?c17 ?k17 ?a18 ?l18 ?c18 ?k18 ?a19 ?l19 ?c19 ?k19 ?a20 ?l20 ?c20 ?k20 ?a21 ?l21 ?c21 ?k21 ?a22 ?l22 ?c22 ?k22 ?a23 ?l23 ?c23 ?k23 ?a24 ?l24 ?c24 ?k24 ?a25 ?l25 ?c25 ?k25 ?a26 ?l26 ?c26 ?k26 ?a27 ?l27 ?c27 ?k27 ?a28 ?l28 ?c28 ?k28 ?a29 ?l29 ?c29 ?k29 ?a30 ?l30 ?c30 ?k30 ?z_len ?z_sum ?z_zip ?z_tuple ?z_list ?z_range ?z_isinstance ?z_int ?z_bool ?z_str ?z_abs ?z_sorted ?z_set ?z_max ?z_min ?gF ?gM
    (case a0 => k_is)
    (case l0 => k_is)
    (case c0 => k_is)
    (case k0 => k_is)
    (case a1 => k_is)
    (case l1 => k_is)
    (case c1 => k_is)
    (case k1 => k_is)
    (case a2 => k_is)
    (case l2 => k_is)
    (case c2 => k_is)
    (case k2 => k_is)
    (case a3 => k_is)
    (case l3 => k_is)
    (case c3 => k_is)
    (case k3 => k_is)
    (case a4 => k_is)
    (case l4 => k_is)
    (case c4 => k_is)
    (case k4 => k_is)
    (case a5 => k_is)
    (case l5 => k_is)
    (case c5 => k_is)
    (case k5 => k_is)
    (case a6 => k_is)
    (case l6 => k_is)
    (case c6 => k_is)
    (case k6 => k_is)
    (case a7 => k_is)
    (case l7 => k_is)
    (case c7 => k_is)
    (case k7 => k_is)
    (case a8 => k_is)
    (case l8 => k_is)
    (case c8 => k_is)
    (case k8 => k_is)
    (case a9 => k_is)
    (case l9 => k_is)
    (case c9 => k_is)
    (case k9 => k_is)
    (case a10 => k_is)
    (case l10 => k_is)
    (case c10 => k_is)
    (case k10 => k_is)
    (case a11 => k_is)
    (case l11 => k_is)
    (case c11 => k_is)
    (case k11 => k_is)
    (case a12 => k_is)
    (case l12 => k_is)
    (case c12 => k_is)
    (case k12 => k_is)
    (case a13 => k_is)
    (case l13 => k_is)
    (case c13 => k_is)
    (case k13 => k_is)
    (case a14 => k_is)
    (case l14 => k_is)
    (case c14 => k_is)
    (case k14 => k_is)
    (case a15 => k_is)
    (case l15 => k_is)
    (case c15 => k_is)
    (case k15 => k_is)
    (case a16 => k_is)
    (case l16 => k_is)
    (case c16 => k_is)
    (case k16 => k_is)
    (case a17 => k_is)
    (case l17 => k_is)
    (case c17 => k_is)
    (case k17 => k_is)
    (case a18 => k_is)
    (case l18 => k_is)
    (case c18 => k_is)
    (case k18 => k_is)
    (case a19 => k_is)
    (case l19 => k_is)
    (case c19 => k_is)
    (case k19 => k_is)
    (case a20 => k_is)
    (case l20 => k_is)
    (case c20 => k_is)
    (case k20 => k_is)
    (case a21 => k_is)
    (case l21 => k_is)
    (case c21 => k_is)
    (case k21 => k_is)
    (case a22 => k_is)
    (case l22 => k_is)
    (case c22 => k_is)
    (case k22 => k_is)
    (case a23 => k_is)
    (case l23 => k_is)
    (case c23 => k_is)
    (case k23 => k_is)
    (case a24 => k_is)
    (case l24 => k_is)
    (case c24 => k_is)
    (case k24 => k_is)
    (case a25 => k_is)
    (case l25 => k_is)
    (case c25 => k_is)
    (case k25 => k_is)
    (case a26 => k_is)
    (case l26 => k_is)
    (case c26 => k_is)
    (case k26 => k_is)
    (case a27 => k_is)
    (case l27 => k_is)
    (case c27 => k_is)
    (case k27 => k_is)
    (case a28 => k_is)
    (case l28 => k_is)
    (case c28 => k_is)
    (case k28 => k_is)
    (case a29 => k_is)
    (case l29 => k_is)
    (case c29 => k_is)
    (case k29 => k_is)
    (case a30 => k_is)
    (case l30 => k_is)
    (case c30 => k_is)
    (case k30 => k_is)
    (case z_len => k_is)
    (case z_sum => k_is)
    (case z_zip => k_is)
    (case z_tuple => k_is)
    (case z_list => k_is)
    (case z_range => k_is)
    (case z_isinstance => k_is)
    (case z_int => k_is)
    (case z_bool => k_is)
    (case z_str => k_is)
    (case z_abs => k_is)
    (case z_sorted => k_is)
    (case z_set => k_is)
    (case z_max => k_is)
    (case z_min => k_is)
    (case gF => k_is)
    (case gM => k_is)

