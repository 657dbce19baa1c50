import PyProof.Rows.All
import Wide.All
import OpenK.AllK
import Wide.FinOn
import HandS.ForMost
import HandS.IsInst
import HandS.Wide
import HandS.Lambda
import HandS.EndTab
import PySem.Challenge.RW_circlesettle_k32_whole_no_solution_is_le
set_option Elab.async false
set_option maxRecDepth 100000
set_option maxHeartbeats 4000000
set_option linter.all false
/-! Amounts, walks, pigeonhole, sums: plain Lean, no program -/
namespace CS

abbrev Am := Option Nat
abbrev Arc := Nat × Int

/-- the amount a with the shift c -/
def sh : Am → Int → Am
  | none, _ => none
  | some a, c => some ((a : Int) + c).toNat

/-- a is at most b -/
def le : Am → Am → Prop
  | _, none => True
  | none, some _ => False
  | some a, some b => a ≤ b

instance : ∀ a b, Decidable (le a b)
  | _, none => isTrue trivial
  | none, some _ => isFalse (fun h => h)
  | some a, some b => inferInstanceAs (Decidable (a ≤ b))

theorem le_refl (a : Am) : le a a := by
  cases a with
  | none => exact trivial
  | some a => exact Nat.le_refl a
theorem le_none (a : Am) : le a none := by cases a <;> exact trivial
theorem le_trans {a b c : Am} (h : le a b) (k : le b c) : le a c := by
  cases c with
  | none => exact le_none a
  | some c =>
    cases b with
    | none => exact k.elim
    | some b =>
      cases a with
      | none => exact h.elim
      | some a => exact Nat.le_trans h k
theorem le_total (a b : Am) : le a b ∨ le b a := by
  cases a with
  | none => exact .inr (le_none b)
  | some a =>
    cases b with
    | none => exact .inl (le_none _)
    | some b => exact Nat.le_total a b
theorem le_antisymm {a b : Am} (h : le a b) (k : le b a) : a = b := by
  cases a with
  | none =>
    cases b with
    | none => rfl
    | some b => exact h.elim
  | some a =>
    cases b with
    | none => exact k.elim
    | some b => exact congrArg some (Nat.le_antisymm h k)
theorem le_some {a b : Nat} : le (some a) (some b) ↔ a ≤ b := Iff.rfl
theorem none_le {b : Am} : le none b ↔ b = none := by
  cases b with
  | none => exact ⟨fun _ => rfl, fun _ => trivial⟩
  | some b => exact ⟨fun h => h.elim, fun h => nomatch h⟩
theorem le_of_not {a b : Am} (h : ¬ le a b) : le b a := (le_total a b).resolve_left h
theorem sh_mono {a b : Am} (c : Int) (h : le a b) : le (sh a c) (sh b c) := by
  cases b with
  | none => exact le_none _
  | some b =>
    cases a with
    | none => exact h.elim
    | some a =>
      have h : a ≤ b := h
      show ((a : Int) + c).toNat ≤ ((b : Int) + c).toNat
      omega
theorem zero_le (a : Am) : le (some 0) a := by
  cases a with
  | none => exact trivial
  | some a => exact Nat.zero_le a

/-- sums of the first m -/
def sumTo (w : Nat → Int) : Nat → Int
  | 0 => 0
  | m + 1 => sumTo w m + w m

theorem sumTo_add (w : Nat → Int) (i j : Nat) : sumTo w (i + j) = sumTo w i + sumTo (fun k => w (i + k)) j := by
  induction j with
  | zero => simp [sumTo]
  | succ j ih =>
    show sumTo w (i + j) + w (i + j) = sumTo w i + (sumTo (fun k => w (i + k)) j + w (i + j))
    rw [ih]; omega
theorem sumTo_congr {w u : Nat → Int} {m : Nat} (h : ∀ i, i < m → w i = u i) : sumTo w m = sumTo u m := by
  induction m with
  | zero => rfl
  | succ m ih =>
    show sumTo w m + w m = sumTo u m + u m
    rw [ih (fun i hi => h i (by omega)), h m (by omega)]
theorem sumTo_lin (n : Int) (w : Nat → Int) (m : Nat) : sumTo (fun i => n * w i - 1) m = n * sumTo w m - m := by
  induction m with
  | zero => simp [sumTo]
  | succ m ih =>
    show sumTo (fun i => n * w i - 1) m + (n * w m - 1) = n * (sumTo w m + w m) - ((m + 1 : Nat) : Int)
    rw [ih, Int.mul_add]; omega
theorem tele {w f : Nat → Int} {m : Nat} (h : ∀ i, i < m → f (i + 1) + w i ≤ f i) : sumTo w m ≤ f 0 - f m := by
  induction m with
  | zero => simp [sumTo]
  | succ m ih =>
    have a := ih (fun i hi => h i (by omega))
    have b := h m (by omega)
    show sumTo w m + w m ≤ f 0 - f (m + 1)
    omega
theorem tele_lt {w f : Nat → Int} {m : Nat} (h : ∀ i, i < m → f (i + 1) + w i ≤ f i) {j : Nat} (hj : j < m) (k : f (j + 1) + w j < f j) : sumTo w m < f 0 - f m := by
  induction m with
  | zero => omega
  | succ m ih =>
    have b := h m (by omega)
    show sumTo w m + w m < f 0 - f (m + 1)
    by_cases e : j = m
    · subst e
      have a := tele (w := w) (f := f) (m := j) (fun i hi => h i (by omega))
      omega
    · have a := ih (fun i hi => h i (by omega)) (by omega)
      omega
theorem tele_ge {w f : Nat → Int} {m : Nat} (h : ∀ i, i < m → f i ≤ f (i + 1) + w i) : f 0 - f m ≤ sumTo w m := by
  induction m with
  | zero => simp [sumTo]
  | succ m ih =>
    have a := ih (fun i hi => h i (by omega))
    have b := h m (by omega)
    show f 0 - f (m + 1) ≤ sumTo w m + w m
    omega

/-- pigeonhole -/
theorem pigeon (n : Nat) : ∀ f : Nat → Nat, (∀ i, i ≤ n → f i < n) → ∃ i j, i < j ∧ j ≤ n ∧ f i = f j := by
  induction n with
  | zero => intro f h; have := h 0 (by omega); omega
  | succ n ih =>
    intro f h
    by_cases c : ∃ i, i ≤ n ∧ f i = f (n + 1)
    · obtain ⟨i, h1, h2⟩ := c
      exact ⟨i, n + 1, by omega, by omega, h2⟩
    · -- swap f (n+1) with n
      have hn := h (n + 1) (by omega)
      obtain ⟨i, j, h1, h2, h3⟩ := ih (fun i => if f i = n then f (n + 1) else f i) (fun i hi => by
        have a := h i (by omega)
        have b : f i ≠ f (n + 1) := fun e => c ⟨i, hi, e⟩
        show (if f i = n then f (n + 1) else f i) < n
        split <;> omega)
      refine ⟨i, j, h1, by omega, ?_⟩
      have a : f i ≠ f (n + 1) := fun e => c ⟨i, by omega, e⟩
      have b : f j ≠ f (n + 1) := fun e => c ⟨j, by omega, e⟩
      have h3 : (if f i = n then f (n + 1) else f i) = (if f j = n then f (n + 1) else f j) := h3
      split at h3 <;> split at h3 <;> omega

/-- a greatest one -/
theorem max_of (n : Nat) (P : Nat → Prop) (f : Nat → Nat) : (∃ u, u < n ∧ P u) → ∃ u, u < n ∧ P u ∧ ∀ v, v < n → P v → f v ≤ f u := by
  induction n with
  | zero => rintro ⟨u, h, _⟩; omega
  | succ n ih =>
    rintro ⟨u, hu, pu⟩
    by_cases c : ∃ u, u < n ∧ P u
    · obtain ⟨v, hv, pv, mx⟩ := ih c
      by_cases d : P n ∧ f v < f n
      · refine ⟨n, by omega, d.1, fun z hz pz => ?_⟩
        by_cases e : z = n
        · rw [e]; exact Nat.le_refl _
        · have := mx z (by omega) pz
          omega
      · refine ⟨v, by omega, pv, fun z hz pz => ?_⟩
        by_cases e : z = n
        · subst e
          have : ¬ f v < f z := fun q => d ⟨pz, q⟩
          omega
        · exact mx z (by omega) pz
    · have e : u = n := by
        by_cases e : u = n
        · exact e
        · exact absurd ⟨u, by omega, pu⟩ c
      subst e
      refine ⟨u, hu, pu, fun z hz pz => ?_⟩
      by_cases e : z = u
      · rw [e]; exact Nat.le_refl _
      · exact absurd ⟨z, by omega, pz⟩ c

/-- iterates -/
def it (P : Nat → Nat) (u : Nat) : Nat → Nat
  | 0 => u
  | m + 1 => P (it P u m)
theorem it_add (P : Nat → Nat) (u i j : Nat) : it P u (i + j) = it P (it P u i) j := by
  induction j with
  | zero => rfl
  | succ j ih =>
    show P (it P u (i + j)) = P (it P (it P u i) j)
    rw [ih]
theorem it_per {P : Nat → Nat} {u m : Nat} (h : it P u m = u) (i : Nat) : it P u (m + i) = it P u i := by
  rw [it_add, h]

/-- a set that a function keeps, within n: there is a circle -/
theorem circle_in {n : Nat} {P : Nat → Nat} {D : Nat → Prop} (hn : ∀ u, D u → u < n) (hP : ∀ u, D u → D (P u)) {u : Nat} (hu : D u) :
    ∃ v m, D v ∧ 1 ≤ m ∧ m ≤ n ∧ it P v m = v := by
  have hD : ∀ i, D (it P u i) := fun i => by
    induction i with
    | zero => exact hu
    | succ i ih => exact hP _ ih
  obtain ⟨i, j, h1, h2, h3⟩ := pigeon n (it P u) (fun i _ => hn _ (hD i))
  refine ⟨it P u i, j - i, hD i, by omega, by omega, ?_⟩
  rw [← it_add]
  have e : i + (j - i) = j := by omega
  rw [e, ← h3]

end CS

/-! Relaxing arcs in rounds: what holds with a ghost of rounds and parents -/
namespace CS

def fset {α : Type} (f : Nat → α) (i : Nat) (v : α) : Nat → α := fun j => if j = i then v else f j
theorem fset_same {α : Type} {f : Nat → α} {i : Nat} {v : α} : fset f i v i = v := if_pos rfl
theorem fset_ne {α : Type} {f : Nat → α} {i j : Nat} {v : α} (h : j ≠ i) : fset f i v j = f j := if_neg h

structure Dom {α : Type} (Le : α → α → Prop) (g : Int → α → α) (fin : α → Prop) (val : α → Int) (ω : Int → Int) : Prop where
  refl : ∀ a, Le a a
  trans : ∀ {a b c}, Le a b → Le b c → Le a c
  total : ∀ a b, Le a b ∨ Le b a
  mono : ∀ {a b} (s : Int), Le a b → Le (g s a) (g s b)
  finOf : ∀ {a b} {s : Int}, ¬ Le b (g s a) → fin a
  finG : ∀ {a} (s : Int), fin a → fin (g s a)
  finDown : ∀ {a b}, Le a b → fin b → fin a
  valLe : ∀ {a b} {s : Int}, fin a → fin b → Le (g s a) b → val a + ω s ≤ val b
  valLt : ∀ {a b} {s : Int}, fin a → fin b → ¬ Le b (g s a) → val a + ω s < val b

structure Rx {α : Type} (Le : α → α → Prop) (g : Int → α → α) (fin : α → Prop) (ω : Int → Int) (n b : Nat) (A : Nat → List Arc) (k v : Nat) (done : Arc → Prop)
    (d : Nat → α) (p : Nat → Option Arc) (r : Nat → Nat) : Prop where
  rk : ∀ u, r u ≤ k
  par : ∀ u t s, p u = some (t, s) → u < n ∧ (t, s) ∈ A u ∧ r u ≤ r t + 1 ∧ Le (g s (d t)) (d u) ∧ fin (d t) ∧ fin (d u)
  has : ∀ u, u < n → b ≤ r u → p u ≠ none
  arcs : ∀ u, u < n → ∀ t s, (t, s) ∈ A u → (k - 1 ≤ r t ∧ (u < v ∨ (u = v ∧ done (t, s)) → k ≤ r t)) ∨ Le (d u) (g s (d t))
  neg : ∀ (m : Nat) (a : Nat → Nat) (s : Nat → Int), 1 ≤ m → a 0 = a m → (∀ i, i < m → p (a i) = some (a (i + 1), s i)) → sumTo (fun i => ω (s i)) m < 0

section
variable {α : Type} {Le : α → α → Prop} {g : Int → α → α} {fin : α → Prop} {val : α → Int} {ω : Int → Int} {n b : Nat} {A : Nat → List Arc} {k v t : Nat} {s : Int} {done : Arc → Prop}
  {d : Nat → α} {p : Nat → Option Arc} {r : Nat → Nat}

theorem Rx.start (hb : 1 ≤ b) (d : Nat → α) : Rx Le g fin ω n b A 1 0 (fun _ => False) d (fun _ => none) (fun _ => 0) where
  rk := fun _ => Nat.zero_le _
  par := fun u t s h => nomatch h
  has := fun u _ h => by have h : b ≤ 0 := h; omega
  arcs := fun u _ t s _ => .inl ⟨Nat.le_refl _, by rintro (h | ⟨_, h⟩) <;> first | omega | exact h.elim⟩
  neg := fun m a s h _ h2 => nomatch h2 0 (by omega)

/-- the arc is looked at: nothing to be done -/
theorem Rx.keep (I : Rx Le g fin ω n b A k v done d p r) (hle : Le (d v) (g s (d t))) : Rx Le g fin ω n b A k v (fun a => done a ∨ a = (t, s)) d p r where
  rk := I.rk
  par := I.par
  has := I.has
  arcs := fun u hu t' s' ha => by
    by_cases e : u = v ∧ (t', s') = (t, s)
    · obtain ⟨e1, e2⟩ := e
      cases e2
      subst e1
      exact .inr hle
    · rcases I.arcs u hu t' s' ha with ⟨h, h2⟩ | h
      · refine .inl ⟨h, ?_⟩
        rintro (z | ⟨z, z2 | z2⟩)
        · exact h2 (.inl z)
        · exact h2 (.inr ⟨z, z2⟩)
        · exact absurd ⟨z, z2⟩ e
      · exact .inr h
  neg := I.neg

/-- the arc makes it less -/
theorem Rx.upd (D : Dom Le g fin val ω) (I : Rx Le g fin ω n b A k v done d p r) (hk : 1 ≤ k) (hv : v < n) (ha : (t, s) ∈ A v) (hlt : ¬ Le (d v) (g s (d t))) :
    Rx Le g fin ω n b A k v (fun a => done a ∨ a = (t, s)) (fset d v (g s (d t))) (fset p v (some (t, s))) (fset r v k) := by
  have hdown : Le (g s (d t)) (d v) := (D.total _ _).resolve_left hlt
  have hrt : k - 1 ≤ r t := by
    rcases I.arcs v hv t s ha with h | h
    · exact h.1
    · exact absurd h hlt
  have fint : fin (d t) := D.finOf hlt
  have dn : ∀ u, Le (fset d v (g s (d t)) u) (d u) := fun u => by
    by_cases e : u = v
    · subst e; rw [fset_same]; exact hdown
    · rw [fset_ne e]; exact D.refl _
  have rup : ∀ u, r u ≤ fset r v k u := fun u => by
    by_cases e : u = v
    · subst e; rw [fset_same]; exact I.rk _
    · rw [fset_ne e]; exact Nat.le_refl _
  refine ⟨fun u => ?_, fun u t' s' hp => ?_, fun u hu hr => ?_, fun u hu t' s' hm => ?_, ?_⟩
  · by_cases e : u = v
    · subst e; rw [fset_same]; exact Nat.le_refl _
    · rw [fset_ne e]; exact I.rk u
  · by_cases e : u = v
    · subst e
      rw [fset_same] at hp
      cases hp
      refine ⟨hv, ha, ?_, ?_, D.finDown (dn _) fint, ?_⟩
      · rw [fset_same]; have := rup t; omega
      · rw [fset_same]; exact D.mono s (dn t)
      · rw [fset_same]; exact D.finG s fint
    · rw [fset_ne e] at hp
      obtain ⟨h1, h2, h3, h4, h5, h6⟩ := I.par u t' s' hp
      refine ⟨h1, h2, ?_, ?_, D.finDown (dn _) h5, D.finDown (dn _) h6⟩
      · rw [fset_ne e]; have := rup t'; omega
      · rw [fset_ne e]; exact D.trans (D.mono s' (dn t')) h4
  · by_cases e : u = v
    · subst e; rw [fset_same]; exact fun h => nomatch h
    · rw [fset_ne e] at hr ⊢; exact I.has u hu hr
  · by_cases et : t' = v
    · refine .inl ?_
      rw [et, fset_same]
      exact ⟨by omega, fun _ => Nat.le_refl _⟩
    · by_cases e : u = v
      · subst e
        by_cases q : (t', s') = (t, s)
        · cases q
          refine .inr ?_
          rw [fset_same, fset_ne et]; exact D.refl _
        · rcases I.arcs u hu t' s' hm with ⟨h, h2⟩ | h
          · refine .inl ?_
            rw [fset_ne et]
            refine ⟨h, ?_⟩
            rintro (z | ⟨z, z2 | z2⟩)
            · exact h2 (.inl z)
            · exact h2 (.inr ⟨z, z2⟩)
            · exact absurd z2 q
          · refine .inr ?_
            rw [fset_ne et]
            exact D.trans (dn u) h
      · rcases I.arcs u hu t' s' hm with ⟨h, h2⟩ | h
        · refine .inl ?_
          rw [fset_ne et]
          refine ⟨h, ?_⟩
          rintro (z | ⟨z, z2⟩)
          · exact h2 (.inl z)
          · exact absurd z e
        · refine .inr ?_
          rw [fset_ne et, fset_ne e]
          exact h
  · intro m a s' hm h0 h
    by_cases c : ∃ i, i < m ∧ a i = v
    · obtain ⟨i, hi, ei⟩ := c
      -- every cell of the walk has a finite value ahead of the change
      have finA : ∀ j, j < m → fin (d (a j)) ∧ fin (d (a (j + 1))) := by
        have f1 : ∀ j, j < m → fin (d (a (j + 1))) := fun j hj => by
          have q := h j hj
          by_cases e : a j = v
          · rw [e, fset_same] at q
            have q2 : t = a (j + 1) := congrArg Prod.fst (Option.some.inj q)
            rw [← q2]; exact fint
          · rw [fset_ne e] at q
            exact (I.par _ _ _ q).2.2.2.2.1
        intro j hj
        refine ⟨?_, f1 j hj⟩
        cases j with
        | zero =>
          rw [h0]
          have := f1 (m - 1) (by omega)
          have e : m - 1 + 1 = m := by omega
          rw [e] at this
          exact this
        | succ j => exact f1 j (by omega)
      have st : ∀ j, j < m → val (d (a (j + 1))) + ω (s' j) ≤ val (d (a j)) ∧ (a j = v → val (d (a (j + 1))) + ω (s' j) < val (d (a j))) := fun j hj => by
        have q := h j hj
        obtain ⟨f1, f2⟩ := finA j hj
        by_cases e : a j = v
        · rw [e, fset_same] at q
          have q := Option.some.inj q
          have q1 : t = a (j + 1) := congrArg Prod.fst q
          have q2 : s = s' j := congrArg Prod.snd q
          have z : val (d (a (j + 1))) + ω (s' j) < val (d (a j)) := by
            refine D.valLt f2 f1 ?_
            rw [← q1, ← q2, e]; exact hlt
          exact ⟨by omega, fun _ => z⟩
        · rw [fset_ne e] at q
          exact ⟨D.valLe f2 f1 (I.par _ _ _ q).2.2.2.1, fun z => absurd z e⟩
      have := tele_lt (w := fun i => ω (s' i)) (f := fun i => val (d (a i))) (m := m) (fun j hj => (st j hj).1) hi ((st i hi).2 ei)
      have e : val (d (a 0)) = val (d (a m)) := by rw [h0]
      have this : sumTo (fun i => ω (s' i)) m < val (d (a 0)) - val (d (a m)) := this
      omega
    · exact I.neg m a s' hm h0 fun i hi => by
        have q := h i hi
        rw [fset_ne (fun e => c ⟨i, hi, e⟩)] at q
        exact q

/-- a cell that is no arc's: set in the first round -/
theorem Rx.src (D : Dom Le g fin val ω) {c : α} (I : Rx Le g fin ω n b A 1 v done d p r) (hb : 2 ≤ b) (hA : A v = []) (hle : Le c (d v)) :
    Rx Le g fin ω n b A 1 v done (fset d v c) p (fset r v 1) := by
  have dn : ∀ u, Le (fset d v c u) (d u) := fun u => by
    by_cases e : u = v
    · subst e; rw [fset_same]; exact hle
    · rw [fset_ne e]; exact D.refl _
  have rup : ∀ u, r u ≤ fset r v 1 u := fun u => by
    by_cases e : u = v
    · subst e; rw [fset_same]; exact I.rk _
    · rw [fset_ne e]; exact Nat.le_refl _
  have nov : ∀ u t s, (t, s) ∈ A u → u ≠ v := fun u t s h e => by
    rw [e, hA] at h; exact absurd h (by simp)
  refine ⟨fun u => ?_, fun u t' s' hp => ?_, fun u hu hr => ?_, fun u hu t' s' hm => ?_, I.neg⟩
  · by_cases e : u = v
    · subst e; rw [fset_same]; exact Nat.le_refl _
    · rw [fset_ne e]; exact I.rk u
  · obtain ⟨h1, h2, h3, h4, h5, h6⟩ := I.par u t' s' hp
    have e := nov _ _ _ h2
    refine ⟨h1, h2, ?_, ?_, D.finDown (dn _) h5, D.finDown (dn _) h6⟩
    · rw [fset_ne e]; have := rup t'; omega
    · rw [fset_ne e]; exact D.trans (D.mono s' (dn t')) h4
  · by_cases e : u = v
    · subst e; rw [fset_same] at hr; omega
    · rw [fset_ne e] at hr; exact I.has u hu hr
  · have e := nov _ _ _ hm
    by_cases et : t' = v
    · refine .inl ?_
      rw [et, fset_same]
      exact ⟨by omega, fun _ => Nat.le_refl _⟩
    · rcases I.arcs u hu t' s' hm with h | h
      · refine .inl ?_
        rw [fset_ne et]; exact h
      · refine .inr ?_
        rw [fset_ne et, fset_ne e]; exact h

/-- all arcs of the cell are done -/
theorem Rx.cell (I : Rx Le g fin ω n b A k v done d p r) (h : ∀ a, a ∈ A v → done a) : Rx Le g fin ω n b A k (v + 1) (fun _ => False) d p r where
  rk := I.rk
  par := I.par
  has := I.has
  arcs := fun u hu t s ha => by
    rcases I.arcs u hu t s ha with ⟨z, z2⟩ | z
    · refine .inl ⟨z, ?_⟩
      rintro (q | ⟨_, q⟩)
      · refine z2 ?_
        by_cases e2 : u = v
        · exact .inr ⟨e2, h _ (e2 ▸ ha)⟩
        · exact .inl (by omega)
      · exact q.elim
    · exact .inr z
  neg := I.neg

/-- the next round -/
theorem Rx.round (I : Rx Le g fin ω n b A k n done d p r) : Rx Le g fin ω n b A (k + 1) 0 (fun _ => False) d p r where
  rk := fun u => Nat.le_succ_of_le (I.rk u)
  par := I.par
  has := I.has
  arcs := fun u hu t s ha => by
    rcases I.arcs u hu t s ha with ⟨z, z2⟩ | z
    · refine .inl ⟨z2 (.inl hu), ?_⟩
      rintro (q | ⟨_, q⟩)
      · omega
      · exact q.elim
    · exact .inr z
  neg := I.neg

/-- the parent's cell, itself where there is none -/
def pt (p : Nat → Option Arc) (u : Nat) : Nat := match p u with
  | some (t, _) => t
  | none => u
def psh (p : Nat → Option Arc) (u : Nat) : Int := match p u with
  | some (_, s) => s
  | none => 0
theorem pt_some {p : Nat → Option Arc} {u : Nat} (h : p u ≠ none) : p u = some (pt p u, psh p u) := by
  unfold pt psh
  cases e : p u with
  | none => exact absurd e h
  | some a => rfl

/-- going back from a cell that the last round changed -/
theorem Rx.chain (I : Rx Le g fin ω n b A k v done d p r) (hA : ∀ u, u < n → ∀ t s, (t, s) ∈ A u → t < n) (hb : b ≤ 2) {u : Nat} (hu : u < n) (hr : n + 1 ≤ r u) :
    ∀ i, i ≤ n → it (pt p) u i < n ∧ n + 1 ≤ r (it (pt p) u i) + i := by
  intro i
  induction i with
  | zero => intro _; exact ⟨hu, by show n + 1 ≤ r u + 0; omega⟩
  | succ i ih =>
    intro hi
    obtain ⟨h1, h2⟩ := ih (by omega)
    have hp := pt_some (I.has _ h1 (by omega))
    obtain ⟨_, q2, q3, _⟩ := I.par _ _ _ hp
    exact ⟨hA _ h1 _ _ q2, by show n + 1 ≤ r (pt p (it (pt p) u i)) + (i + 1); omega⟩

/-- a closed walk along parents from a cell -/
theorem Rx.closed (I : Rx Le g fin ω n b A k v done d p r) {z m : Nat} (hm : 1 ≤ m) (hz : it (pt p) z m = z) (hp : ∀ i, i < m → p (it (pt p) z i) ≠ none) :
    sumTo (fun i => ω (psh p (it (pt p) z i))) m < 0 :=
  I.neg m (it (pt p) z) (fun i => psh p (it (pt p) z i)) hm hz.symm fun i hi => pt_some (hp i hi)

/-- where no closed walk along parents can be, the last round changes nothing -/
theorem Rx.none (I : Rx Le g fin ω n b A k v done d p r) (hA : ∀ u, u < n → ∀ t s, (t, s) ∈ A u → t < n) (hb : b ≤ 2)
    (hno : ∀ (m : Nat) (a : Nat → Nat) (s : Nat → Int), 1 ≤ m → a 0 = a m → (∀ i, i < m → a i < n ∧ (a (i + 1), s i) ∈ A (a i)) → sumTo (fun i => ω (s i)) m < 0 → False) : ∀ u, u < n → r u < n + 1 := by
  intro u hu
  by_cases c : r u < n + 1
  · exact c
  · exfalso
    have ch := I.chain hA hb hu (by omega)
    obtain ⟨i, j, h1, h2, h3⟩ := pigeon n (it (pt p) u) (fun i hi => (ch i hi).1)
    have e : it (pt p) (it (pt p) u i) (j - i) = it (pt p) u i := by
      rw [← it_add, show i + (j - i) = j by omega, ← h3]
    have hp : ∀ x, x < j - i → p (it (pt p) (it (pt p) u i) x) ≠ Option.none := fun x hx => by
      rw [← it_add]
      obtain ⟨q1, q2⟩ := ch (i + x) (by omega)
      exact I.has _ q1 (by omega)
    refine hno (j - i) (it (pt p) (it (pt p) u i)) (fun x => psh p (it (pt p) (it (pt p) u i) x)) (by omega) e.symm (fun x hx => ?_) (I.closed (by omega) e hp)
    obtain ⟨q1, q2, _⟩ := I.par _ _ _ (pt_some (hp x hx))
    exact ⟨q1, q2⟩

/-- the walk back comes into a circle -/
theorem Rx.ring (I : Rx Le g fin ω n b A k v done d p r) (hA : ∀ u, u < n → ∀ t s, (t, s) ∈ A u → t < n) (hb : b ≤ 1) {u : Nat} (hu : u < n) (hr : n + 1 ≤ r u) :
    (∀ i, i ≤ n → p (it (pt p) u i) ≠ Option.none) ∧
    ∃ q, 1 ≤ q ∧ q ≤ n ∧ it (pt p) (it (pt p) u n) q = it (pt p) u n ∧ ∀ i, it (pt p) (it (pt p) u n) i < n ∧ p (it (pt p) (it (pt p) u n) i) ≠ Option.none := by
  have ch := I.chain hA (by omega) hu hr
  have hpn : ∀ i, i ≤ n → p (it (pt p) u i) ≠ Option.none := fun i hi => by
    obtain ⟨q1, q2⟩ := ch i hi
    exact I.has _ q1 (by omega)
  refine ⟨hpn, ?_⟩
  obtain ⟨i, j, h1, h2, h3⟩ := pigeon n (it (pt p) u) (fun i hi => (ch i hi).1)
  have back : ∀ x, it (pt p) u (j + x) = it (pt p) u (i + x) := fun x => by rw [it_add, it_add, h3]
  refine ⟨j - i, by omega, by omega, ?_, fun x => ?_⟩
  · rw [← it_add]
    have e1 : n + (j - i) = j + (n - i) := by omega
    have e2 : i + (n - i) = n := by omega
    rw [e1, back, e2]
  · rw [← it_add]
    -- each place beyond n is one within n
    have key : ∀ y, ∃ z, z ≤ n ∧ it (pt p) u y = it (pt p) u z := fun y => by
      induction y using Nat.strongRecOn with
      | ind y ih =>
        by_cases c : y ≤ n
        · exact ⟨y, c, rfl⟩
        · obtain ⟨z, hz, e⟩ := ih (i + (y - j)) (by omega)
          refine ⟨z, hz, ?_⟩
          rw [← e, ← back, show j + (y - j) = y by omega]
    obtain ⟨z, hz, e⟩ := key (n + x)
    rw [e]
    exact ⟨(ch z hz).1, hpn z hz⟩
end
end CS

/-! Circles that do not gain, the cells that are nought, rounds from above, the least solution of a sheet of "least" alone -/
namespace CS

theorem getD_el {α : Type} (l : List α) (i : Nat) (d : α) (h : i < l.length) : l.getD i d = l[i] := by
  simp [List.getD_eq_getElem?_getD, h]
theorem nodup_len {n : Nat} {l : List Nat} (h : l.Nodup) (k : ∀ a, a ∈ l → a < n) : l.length ≤ n := by
  by_cases c : l.length ≤ n
  · exact c
  · exfalso
    obtain ⟨i, j, h1, h2, h3⟩ := pigeon n (fun i => l.getD i 0) (fun i hi => by
      have hl : i < l.length := by omega
      show l.getD i 0 < n
      rw [getD_el _ _ _ hl]
      exact k _ (List.getElem_mem hl))
    have hi : i < l.length := by omega
    have hj : j < l.length := by omega
    have h3 : l.getD i 0 = l.getD j 0 := h3
    rw [getD_el _ _ _ hi, getD_el _ _ _ hj] at h3
    have := (List.getElem_inj h).mp h3
    omega

theorem getD_set {α : Type} (l : List α) (i : Nat) (v d : α) (h : i < l.length) : (fun j => (l.set i v).getD j d) = fset (fun j => l.getD j d) i v := by
  funext j
  unfold fset
  by_cases e : j = i
  · subst e
    simp [List.getD_eq_getElem?_getD, h]
  · rw [if_neg e]
    simp only [List.getD_eq_getElem?_getD]
    rw [List.getElem?_set_ne (fun z => e z.symm)]

theorem domB (N : Int) : Dom (fun a b : Int => a ≤ b) (fun s a => a + (N * s - 1)) (fun _ => True) id (fun s => N * s - 1) where
  refl := Int.le_refl
  trans := Int.le_trans
  total := Int.le_total
  mono := fun s h => by omega
  finOf := fun _ => trivial
  finG := fun _ _ => trivial
  finDown := fun _ _ => trivial
  valLe := fun _ _ h => h
  valLt := fun {a b s} _ _ h => by
    have h : ¬ b ≤ a + (N * s - 1) := h
    show a + (N * s - 1) < b
    omega

theorem domA : Dom le (fun s a => sh a s) (fun a => a ≠ none) (fun a => ((a.getD 0 : Nat) : Int)) (fun s => s) where
  refl := le_refl
  trans := le_trans
  total := le_total
  mono := fun s h => sh_mono s h
  finOf := fun {a b s} h e => h (by subst e; exact le_none _)
  finG := fun {a} s h => by
    cases a with
    | none => exact absurd rfl h
    | some a => exact fun z => nomatch z
  finDown := fun {a b} h k e => k (by subst e; exact none_le.mp h)
  valLe := fun {a b s} h k l => by
    cases a with
    | none => exact absurd rfl h
    | some a =>
      cases b with
      | none => exact absurd rfl k
      | some b =>
        have l : ((a : Int) + s).toNat ≤ b := l
        show (a : Int) + s ≤ (b : Int)
        omega
  valLt := fun {a b s} h k l => by
    cases a with
    | none => exact absurd rfl h
    | some a =>
      cases b with
      | none => exact absurd rfl k
      | some b =>
        have l : ¬ b ≤ ((a : Int) + s).toNat := l
        show (a : Int) + s < (b : Int)
        omega

/-! ### the search for a circle -/
structure BF (n : Nat) (A : Nat → List Arc) (k v : Nat) (done : Arc → Prop) (dues : List Int) (steps : List (Option Arc)) (last : Option Nat) : Prop where
  l1 : dues.length = n
  l2 : steps.length = n
  rx : ∃ r, Rx (fun a b : Int => a ≤ b) (fun s a => a + ((n : Int) * s - 1)) (fun _ => True) (fun s => (n : Int) * s - 1) n 1 A k v done (fun u => dues.getD u 0) (fun u => steps.getD u none) r ∧
    ((last = none ∧ ∀ u, u < n → r u < k) ∨ ∃ u, last = some u ∧ u < n ∧ r u = k)

section
variable {n k v t : Nat} {s : Int} {A : Nat → List Arc} {done : Arc → Prop} {dues : List Int} {steps : List (Option Arc)} {last : Option Nat}
theorem getD_rep {α : Type} (n : Nat) (a : α) (u : Nat) : (List.replicate n a).getD u a = a := by
  simp only [List.getD_eq_getElem?_getD, List.getElem?_replicate]
  split <;> rfl
theorem BF.init : BF n A 1 0 (fun _ => False) (List.replicate n 0) (List.replicate n none) none := by
  refine ⟨List.length_replicate, List.length_replicate, fun _ => 0, ?_, .inl ⟨rfl, fun _ _ => Nat.zero_lt_one⟩⟩
  have e1 : (fun u => (List.replicate n (0 : Int)).getD u 0) = fun _ => 0 := funext fun u => getD_rep n 0 u
  have e2 : (fun u => (List.replicate n (none : Option Arc)).getD u none) = fun _ => none := funext fun u => getD_rep n none u
  rw [e1, e2]
  exact Rx.start (Nat.le_refl _) _
theorem BF.round (B : BF n A k n done dues steps last) : BF n A (k + 1) 0 (fun _ => False) dues steps none := by
  obtain ⟨h1, h2, r, h3, _⟩ := B
  exact ⟨h1, h2, r, h3.round, .inl ⟨rfl, fun u _ => by have := h3.rk u; omega⟩⟩
theorem BF.cell (B : BF n A k v done dues steps last) (h : ∀ a, a ∈ A v → done a) : BF n A k (v + 1) (fun _ => False) dues steps last := by
  obtain ⟨h1, h2, r, h3, h4⟩ := B
  exact ⟨h1, h2, r, h3.cell h, h4⟩
theorem BF.keep (B : BF n A k v done dues steps last) (hn : ¬ dues.getD t 0 + ((n : Int) * s - 1) < dues.getD v 0) : BF n A k v (fun a => done a ∨ a = (t, s)) dues steps last := by
  obtain ⟨h1, h2, r, h3, h4⟩ := B
  exact ⟨h1, h2, r, h3.keep (by show dues.getD v 0 ≤ dues.getD t 0 + ((n : Int) * s - 1); omega), h4⟩
theorem BF.upd (B : BF n A k v done dues steps last) (hk : 1 ≤ k) (hv : v < n) (ha : (t, s) ∈ A v) (hn : dues.getD t 0 + ((n : Int) * s - 1) < dues.getD v 0) :
    BF n A k v (fun a => done a ∨ a = (t, s)) (dues.set v (dues.getD t 0 + ((n : Int) * s - 1))) (steps.set v (some (t, s))) (some v) := by
  obtain ⟨h1, h2, r, h3, h4⟩ := B
  refine ⟨by rw [List.length_set, h1], by rw [List.length_set, h2], fset r v k, ?_, .inr ⟨v, rfl, hv, fset_same⟩⟩
  rw [getD_set _ _ _ _ (by omega), getD_set _ _ _ _ (by omega)]
  exact h3.upd (domB n) hk hv ha (by show ¬ dues.getD v 0 ≤ dues.getD t 0 + ((n : Int) * s - 1); omega)
/-- no circle: the dues are potentials -/
theorem BF.pot (B : BF n A k n done dues steps none) (hA : ∀ u, u < n → ∀ t s, (t, s) ∈ A u → t < n) : ∃ π : Nat → Int, ∀ u, u < n → ∀ t s, (t, s) ∈ A u → π u ≤ π t + ((n : Int) * s - 1) := by
  obtain ⟨h1, h2, r, h3, h4⟩ := B
  refine ⟨fun u => dues.getD u 0, fun u hu t s ha => ?_⟩
  rcases h4 with ⟨_, h4⟩ | ⟨u, h, _⟩
  · rcases h3.arcs u hu t s ha with ⟨_, q⟩ | q
    · have q1 := q (.inl hu)
      have q2 := h4 t (hA u hu t s ha)
      omega
    · exact q
  · cases h
/-- a circle that does not gain -/
structure Circ (n : Nat) (A : Nat → List Arc) (m : Nat) (a : Nat → Nat) (s : Nat → Int) : Prop where
  pos : 1 ≤ m
  arc : ∀ i, a i < n ∧ (a (i + 1), s i) ∈ A (a i)
  perA : ∀ i, a (m + i) = a i
  perS : ∀ i, s (m + i) = s i
  sum : sumTo s m ≤ 0
structure Ring (n : Nat) (A : Nat → List Arc) (steps : List (Option Arc)) (u : Nat) : Prop where
  back : ∀ i, i ≤ n → it (pt fun u => steps.getD u none) u i < n ∧ steps.getD (it (pt fun u => steps.getD u none) u i) none ≠ none
  ring : ∃ q, 1 ≤ q ∧ q ≤ n ∧ it (pt fun u => steps.getD u none) (it (pt fun u => steps.getD u none) u n) q = it (pt fun u => steps.getD u none) u n
  all : ∀ i, it (pt fun u => steps.getD u none) (it (pt fun u => steps.getD u none) u n) i < n ∧ steps.getD (it (pt fun u => steps.getD u none) (it (pt fun u => steps.getD u none) u n) i) none ≠ none
  circ : ∀ m, 1 ≤ m → m ≤ n → it (pt fun u => steps.getD u none) (it (pt fun u => steps.getD u none) u n) m = it (pt fun u => steps.getD u none) u n →
    Circ n A m (it (pt fun u => steps.getD u none) (it (pt fun u => steps.getD u none) u n)) (fun i => psh (fun u => steps.getD u none) (it (pt fun u => steps.getD u none) (it (pt fun u => steps.getD u none) u n) i))
theorem BF.ring {u : Nat} (B : BF n A (n + 1) n done dues steps (some u)) (hA : ∀ u, u < n → ∀ t s, (t, s) ∈ A u → t < n) : Ring n A steps u := by
  obtain ⟨h1, h2, r, h3, h4⟩ := B
  rcases h4 with ⟨h, _⟩ | ⟨w, h, hu, hr⟩
  · cases h
  cases h
  obtain ⟨q1, q2, q3, q4, q5, q6⟩ := h3.ring hA (Nat.le_refl _) hu (by omega)
  refine ⟨fun i hi => ⟨(h3.chain hA (by omega) hu (by omega) i hi).1, q1 i hi⟩, ⟨q2, q3, q4, q5⟩, q6, fun m hm hmn hz => ?_⟩
  have cl := h3.closed hm hz fun i _ => (q6 i).2
  refine ⟨hm, fun i => ?_, fun i => it_per hz i, fun i => ?_, ?_⟩
  · obtain ⟨a1, a2⟩ := q6 i
    exact ⟨a1, (h3.par _ _ _ (pt_some (p := fun u => steps.getD u none) a2)).2.1⟩
  · show psh _ (it _ _ (m + i)) = _
    rw [it_per hz]
  · rw [sumTo_lin] at cl
    by_cases c : sumTo (fun i => psh (fun u => steps.getD u none) (it (pt fun u => steps.getD u none) (it (pt fun u => steps.getD u none) u n) i)) m ≤ 0
    · exact c
    · exfalso
      have c : 1 ≤ sumTo (fun i => psh (fun u => steps.getD u none) (it (pt fun u => steps.getD u none) (it (pt fun u => steps.getD u none) u n) i)) m := by omega
      have := Int.mul_le_mul_of_nonneg_left c (show (0 : Int) ≤ n by omega)
      omega
end

/-! ### the cell that is nought -/
def Nought (n : Nat) (A : Nat → List Arc) (z : Nat) : Prop := ∃ (m : Nat) (b : Nat → Nat) (s : Nat → Int), 1 ≤ m ∧ b 0 = z ∧ b m = z ∧ (∀ i, b i < n ∧ (b (i + 1), s i) ∈ A (b i)) ∧ ∀ i, i ≤ m → sumTo s i ≤ 0
theorem Nought.mono {n : Nat} {A B : Nat → List Arc} {z : Nat} (h : Nought n A z) (k : ∀ u a, a ∈ A u → a ∈ B u) : Nought n B z := by
  obtain ⟨m, b, s, h1, h2, h3, h4, h5⟩ := h
  exact ⟨m, b, s, h1, h2, h3, fun i => ⟨(h4 i).1, k _ _ (h4 i).2⟩, h5⟩
/-- the search through the circle: the total, the best, the cell found -/
def NSeek (m : Nat) (a : Nat → Nat) (s : Nat → Int) (i : Nat) (total best : Int) (found : Nat) : Prop :=
  total = sumTo s i ∧ ∃ q, q ≤ i ∧ best = sumTo s q ∧ found = a q ∧ ∀ j, j ≤ i → sumTo s j ≤ sumTo s q
theorem NSeek.start {m : Nat} {a : Nat → Nat} {s : Nat → Int} : NSeek m a s 0 0 0 (a 0) :=
  ⟨rfl, 0, Nat.le_refl _, rfl, rfl, fun j hj => by rw [Nat.le_zero.mp hj]; exact Int.le_refl _⟩
theorem NSeek.more {n m : Nat} {A : Nat → List Arc} {a : Nat → Nat} {s : Nat → Int} {i : Nat} {total best : Int} {found : Nat} (C : Circ n A m a s) (I : NSeek m a s i total best found) (hi : i < m) (h : total + s i > best) :
    NSeek m a s (i + 1) (total + s i) (total + s i) (a ((i + 1) % m)) := by
  obtain ⟨h1, q, h2, h3, h4, h5⟩ := I
  refine ⟨by rw [h1]; rfl, i + 1, Nat.le_refl _, by rw [h1]; rfl, ?_, fun j hj => ?_⟩
  · by_cases e : i + 1 = m
    · rw [e, Nat.mod_self]
      have := C.perA 0
      exact this.symm
    · rw [Nat.mod_eq_of_lt (by omega)]
  · by_cases e : j = i + 1
    · rw [e]; exact Int.le_refl _
    · have := h5 j (by omega)
      show sumTo s j ≤ sumTo s i + s i
      omega
theorem NSeek.same {m : Nat} {a : Nat → Nat} {s : Nat → Int} {i : Nat} {total best : Int} {found : Nat} (I : NSeek m a s i total best found) (h : ¬ total + s i > best) : NSeek m a s (i + 1) (total + s i) best found := by
  obtain ⟨h1, q, h2, h3, h4, h5⟩ := I
  refine ⟨by rw [h1]; rfl, q, by omega, h3, h4, fun j hj => ?_⟩
  by_cases e : j = i + 1
  · rw [e]
    show sumTo s i + s i ≤ _
    omega
  · exact h5 j (by omega)
theorem NSeek.nought {n m : Nat} {A : Nat → List Arc} {a : Nat → Nat} {s : Nat → Int} {total best : Int} {found : Nat} (C : Circ n A m a s) (I : NSeek m a s m total best found) : Nought n A found := by
  obtain ⟨h1, q, h2, h3, h4, h5⟩ := I
  refine ⟨m, fun i => a (q + i), fun i => s (q + i), C.pos, by rw [h4]; rfl, ?_, fun i => C.arc (q + i), fun i hi => ?_⟩
  · show a (q + m) = found
    rw [Nat.add_comm, C.perA, h4]
  · have e1 := sumTo_add s q i
    by_cases c : q + i ≤ m
    · have := h5 (q + i) c
      omega
    · have e2 := sumTo_add s m (q + i - m)
      rw [show m + (q + i - m) = q + i by omega] at e2
      have e3 : sumTo (fun k => s (m + k)) (q + i - m) = sumTo s (q + i - m) := sumTo_congr fun j _ => C.perS j
      have := h5 (q + i - m) (by omega)
      have := C.sum
      omega

/-! ### rounds from above -/
structure RD (n : Nat) (A : Nat → List Arc) (src : Nat → Option Am) (k v : Nat) (done : Arc → Prop) (found : List Am) : Prop where
  len : found.length = n
  rx : ∃ p r, Rx le (fun s a => sh a s) (fun a => a ≠ none) (fun s => s) n 2 A k v done (fun u => found.getD u none) p r ∧ ∀ u, u < n → src u = none → p u = none → found.getD u none = none
  srcs : ∀ u c, u < n → src u = some c → (2 ≤ k ∨ u < v → found.getD u none = c) ∧ (k = 1 → v ≤ u → found.getD u none = none)
section
variable {n k v t : Nat} {s : Int} {A : Nat → List Arc} {src : Nat → Option Am} {done : Arc → Prop} {found : List Am}
theorem RD.init : RD n A src 1 0 (fun _ => False) (List.replicate n none) := by
  have e : (fun u => (List.replicate n (none : Am)).getD u none) = fun _ => none := funext fun u => getD_rep n none u
  refine ⟨List.length_replicate, ⟨fun _ => none, fun _ => 0, ?_, fun u _ _ _ => getD_rep n none u⟩, fun u c _ _ => ⟨fun h => ?_, fun _ _ => getD_rep n none u⟩⟩
  · rw [e]
    exact Rx.start (by omega) _
  · omega
theorem RD.round (R : RD n A src k n done found) (hk : 1 ≤ k) : RD n A src (k + 1) 0 (fun _ => False) found := by
  obtain ⟨h1, ⟨p, r, h2, h2'⟩, h3⟩ := R
  exact ⟨h1, ⟨p, r, h2.round, h2'⟩, fun u c hu hc => ⟨fun _ => (h3 u c hu hc).1 (.inr hu), fun h _ => by omega⟩⟩
theorem RD.cell (R : RD n A src k v done found) (h : ∀ a, a ∈ A v → done a) (hs : ∀ c, src v = some c → found.getD v none = c) : RD n A src k (v + 1) (fun _ => False) found := by
  obtain ⟨h1, ⟨p, r, h2, h2'⟩, h3⟩ := R
  refine ⟨h1, ⟨p, r, h2.cell h, h2'⟩, fun u c hu hc => ⟨fun q => ?_, fun e q => (h3 u c hu hc).2 e (by omega)⟩⟩
  by_cases e : u = v
  · subst e; exact hs c hc
  · exact (h3 u c hu hc).1 (by omega)
theorem set_same {α : Type} (l : List α) (i : Nat) (d : α) : l.set i (l.getD i d) = l := by
  refine List.ext_getElem? fun j => ?_
  by_cases e : i = j
  · subst e
    by_cases h : i < l.length
    · simp [h]
    · simp [h]
  · rw [List.getElem?_set_ne e]
theorem RD.arc (R : RD n A src k v done found) (hk : 1 ≤ k) (hv : v < n) (ha : (t, s) ∈ A v) (hs : src v = none) :
    RD n A src k v (fun a => done a ∨ a = (t, s)) (if le (sh (found.getD t none) s) (found.getD v none) then found.set v (sh (found.getD t none) s) else found) := by
  obtain ⟨h1, ⟨p, r, h2, h2'⟩, h3⟩ := R
  by_cases c : le (found.getD v none) (sh (found.getD t none) s)
  · have e : (if le (sh (found.getD t none) s) (found.getD v none) then found.set v (sh (found.getD t none) s) else found) = found := by
      split
      · rename_i q
        rw [le_antisymm q c]
        exact set_same _ _ _
      · rfl
    rw [e]
    exact ⟨h1, ⟨p, r, h2.keep c, h2'⟩, h3⟩
  · rw [if_pos (le_of_not c)]
    have hl : v < found.length := by omega
    have eD := getD_set found v (sh (found.getD t none) s) none hl
    refine ⟨by rw [List.length_set, h1], ⟨fset p v (some (t, s)), fset r v k, ?_, fun u hu hsu hp => ?_⟩, fun u c' hu hc => ?_⟩
    · rw [eD]
      exact h2.upd domA hk hv ha c
    · have q := congrFun eD u
      by_cases e : u = v
      · subst e; rw [fset_same] at hp; cases hp
      · rw [fset_ne e] at hp q
        have q : (found.set v (sh (found.getD t none) s)).getD u none = found.getD u none := q
        rw [q]
        exact h2' u hu hsu hp
    · have e : u ≠ v := fun z => by subst z; rw [hs] at hc; cases hc
      have q := congrFun eD u
      rw [fset_ne e] at q
      have q : (found.set v (sh (found.getD t none) s)).getD u none = found.getD u none := q
      rw [q]
      exact h3 u c' hu hc
theorem RD.source {c : Am} (R : RD n A src k v done found) (hk : 1 ≤ k) (hv : v < n) (hs : src v = some c) (hA : A v = []) :
    RD n A src k (v + 1) (fun _ => False) (found.set v c) := by
  have hl : v < found.length := by rw [R.len]; exact hv
  have eD := getD_set found v c none hl
  have at_ : (found.set v c).getD v none = c := by
    have q := congrFun eD v
    rw [fset_same] at q
    exact q
  have hnone : ∀ a, a ∈ A v → done a := fun a h => by rw [hA] at h; exact absurd h (by simp)
  by_cases k1 : k = 1
  · subst k1
    obtain ⟨h1, ⟨p, r, h2, h2'⟩, h3⟩ := R
    have z := (h3 v c hv hs).2 rfl (Nat.le_refl _)
    refine ⟨by rw [List.length_set, h1], ⟨p, fset r v 1, ?_, fun u hu hsu hp => ?_⟩, fun u c' hu hc => ?_⟩
    · rw [eD]
      exact (h2.src domA (by omega) hA (by show le c (found.getD v none); rw [z]; exact le_none _)).cell hnone
    · have e : u ≠ v := fun q => by subst q; rw [hs] at hsu; cases hsu
      have q := congrFun eD u
      rw [fset_ne e] at q
      have q : (found.set v c).getD u none = found.getD u none := q
      rw [q]
      exact h2' u hu hsu hp
    · by_cases e : u = v
      · subst e
        rw [hs] at hc
        cases hc
        exact ⟨fun _ => at_, fun _ q => by omega⟩
      · have q := congrFun eD u
        rw [fset_ne e] at q
        have q : (found.set v c).getD u none = found.getD u none := q
        rw [q]
        have z2 := h3 u c' hu hc
        exact ⟨fun h => z2.1 (by omega), fun e1 h => z2.2 e1 (by omega)⟩
  · have z := (R.srcs v c hv hs).1 (.inl (by omega))
    have e : found.set v c = found := by rw [← z]; exact set_same _ _ _
    rw [e]
    exact R.cell hnone fun c' h => by rw [hs] at h; cases h; exact z
/-- a solution of the sheet whose sources are told -/
structure Sol (n : Nat) (A : Nat → List Arc) (src : Nat → Option Am) (x : Nat → Am) : Prop where
  at_ : ∀ u c, u < n → src u = some c → x u = c
  all : ∀ u, u < n → src u = none → ∀ t s, (t, s) ∈ A u → le (x u) (sh (x t) s)
  one : ∀ u, u < n → src u = none → x u = none ∨ ∃ t s, (t, s) ∈ A u ∧ le (sh (x t) s) (x u)
theorem RD.sol (R : RD n A src (n + 1) n done found) (hA : ∀ u, u < n → ∀ t s, (t, s) ∈ A u → t < n) (hp : ∃ π : Nat → Int, ∀ u, u < n → ∀ t s, (t, s) ∈ A u → π u ≤ π t + ((n : Int) * s - 1)) :
    Sol n A src (fun u => found.getD u none) := by
  obtain ⟨h1, ⟨p, r, h2, h2'⟩, h3⟩ := R
  obtain ⟨π, hπ⟩ := hp
  have key : ∀ u, u < n → r u < n + 1 := h2.none hA (Nat.le_refl _) (fun m a s hm h0 h hneg => by
    have q := tele_ge (w := fun i => (n : Int) * s i - 1) (f := fun i => π (a i)) (m := m) (fun i hi => hπ _ (h i hi).1 _ _ (h i hi).2)
    rw [sumTo_lin] at q
    have q : π (a 0) - π (a m) ≤ (n : Int) * sumTo s m - m := q
    rw [h0] at q
    have hneg : sumTo s m < 0 := hneg
    have c : sumTo s m ≤ 0 := by omega
    have := Int.mul_le_mul_of_nonneg_left c (show (0 : Int) ≤ n by omega)
    omega)
  refine ⟨fun u c hu hc => (h3 u c hu hc).1 (.inr hu), fun u hu hs t s ha => ?_, fun u hu hs => ?_⟩
  · rcases h2.arcs u hu t s ha with ⟨_, q⟩ | q
    · have q1 := q (.inl hu)
      have q2 := key t (hA u hu t s ha)
      omega
    · exact q
  · cases e : p u with
    | none => exact .inl (h2' u hu hs e)
    | some a =>
      obtain ⟨t, s⟩ := a
      obtain ⟨_, q2, _, q4, _⟩ := h2.par u t s e
      exact .inr ⟨t, s, q2, q4⟩
end

/-! ### the least solution of a sheet of "least" alone -/
/-- amt: the amounts' cells; A: the arcs of the others -/
structure Lst (n : Nat) (A : Nat → List Arc) (amt : Nat → Option Am) (x : Nat → Am) : Prop where
  at_ : ∀ u c, u < n → amt u = some c → x u = c
  all : ∀ u, u < n → amt u = none → ∀ t s, (t, s) ∈ A u → le (x u) (sh (x t) s)
  one : ∀ u, u < n → amt u = none → ∃ t s, (t, s) ∈ A u ∧ le (sh (x t) s) (x u)
  least : ∀ y : Nat → Am, (∀ u c, u < n → amt u = some c → le c (y u)) → (∀ u, u < n → amt u = none → ∃ t s, (t, s) ∈ A u ∧ le (sh (y t) s) (y u)) → ∀ u, u < n → le (x u) (y u)

theorem lst_of {n : Nat} {A : Nat → List Arc} {amt : Nat → Option Am} {x : Nat → Am} {N : Nat → Bool} (hA : ∀ u, u < n → ∀ t s, (t, s) ∈ A u → t < n) (hamt : ∀ u c, amt u = some c → A u = []) (hne : ∀ u, u < n → amt u = none → A u ≠ [])
    (hN : ∀ u, N u = true → Nought n A u)
    (S : Sol n (fun u => if N u then [] else A u) (fun u => if N u then some (some 0) else amt u) x) (hp : ∃ π : Nat → Int, ∀ u, u < n → ∀ t s, (t, s) ∈ (if N u then [] else A u) → π u ≤ π t + ((n : Int) * s - 1)) :
    Lst n A amt x := by
  have noAmt : ∀ u, N u = true → amt u = none := fun u h => by
    cases e : amt u with
    | none => rfl
    | some c =>
      obtain ⟨m, b, s, _, h0, _, h3, _⟩ := hN u h
      have q := (h3 0).2
      rw [h0, hamt u c e] at q
      exact absurd q (by simp)
  have x0 : ∀ u, u < n → N u = true → x u = some 0 := fun u hu h => S.at_ u _ hu (if_pos h)
  have sArcs : ∀ u, u < n → N u = false → amt u = none → ∀ t s, (t, s) ∈ A u → le (x u) (sh (x t) s) := fun u hu h k t s ha =>
    S.all u hu (by rw [h]; exact k) t s (by rw [h]; exact ha)
  refine ⟨fun u c hu hc => ?_, fun u hu hc t s ha => ?_, fun u hu hc => ?_, fun y y1 y2 u hu => ?_⟩
  · cases e : N u with
    | true => have := noAmt u e; rw [hc] at this; cases this
    | false => exact S.at_ u c hu (by rw [e]; exact hc)
  · cases e : N u with
    | true => rw [x0 u hu e]; exact zero_le _
    | false => exact sArcs u hu e hc t s ha
  · cases e : N u with
    | false =>
      rcases S.one u hu (by rw [e]; exact hc) with q | ⟨t, s, h1, h2⟩
      · cases ea : A u with
        | nil => exact absurd ea (hne u hu hc)
        | cons a l =>
          obtain ⟨t, s⟩ := a
          exact ⟨t, s, by simp, by rw [q]; exact le_none _⟩
      · rw [e] at h1
        exact ⟨t, s, h1, h2⟩
    | true =>
      obtain ⟨m, b, s, hm, h0, h1, h3, h4⟩ := hN u e
      -- along the circle: what stands there and the sum before it are together at most nothing
      have bound : ∀ j, j < m → ∃ v : Nat, x (b (m - j)) = some v ∧ sumTo s (m - j) + v ≤ 0 := by
        intro j
        induction j with
        | zero =>
          intro _
          refine ⟨0, ?_, ?_⟩
          · show x (b m) = some 0
            rw [h1]; exact x0 u hu e
          · have := h4 m (Nat.le_refl _)
            show sumTo s m + ((0 : Nat) : Int) ≤ 0
            omega
        | succ j ih =>
          intro hj
          obtain ⟨v, hv, hs⟩ := ih (by omega)
          have es : m - (j + 1) + 1 = m - j := by omega
          have hi := h3 (m - (j + 1))
          rw [es] at hi
          have hx : le (x (b (m - (j + 1)))) (sh (x (b (m - j))) (s (m - (j + 1)))) := by
            cases eN : N (b (m - (j + 1))) with
            | true => rw [x0 _ hi.1 eN]; exact zero_le _
            | false =>
              refine sArcs _ hi.1 eN ?_ _ _ hi.2
              cases ea : amt (b (m - (j + 1))) with
              | none => rfl
              | some c => have q := hi.2; rw [hamt _ c ea] at q; exact absurd q (by simp)
          rw [hv] at hx
          cases ex : x (b (m - (j + 1))) with
          | none => rw [ex] at hx; exact hx.elim
          | some v' =>
            rw [ex] at hx
            have hx : v' ≤ ((v : Int) + s (m - (j + 1))).toNat := hx
            refine ⟨v', rfl, ?_⟩
            have e2 : sumTo s (m - j) = sumTo s (m - (j + 1)) + s (m - (j + 1)) := by rw [← es]; rfl
            have := h4 (m - (j + 1)) (by omega)
            omega
      obtain ⟨v, hv, hs⟩ := bound (m - 1) (by omega)
      rw [show m - (m - 1) = 1 by omega] at hv hs
      have q := (h3 0).2
      rw [h0] at q
      refine ⟨b 1, s 0, q, ?_⟩
      rw [hv, x0 u hu e]
      have hs : 0 + s 0 + (v : Int) ≤ 0 := hs
      show ((v : Int) + s 0).toNat ≤ 0
      omega
  · by_cases c : le (x u) (y u)
    · exact c
    · exfalso
      -- cells at which y is less: each has an arc to another one
      have step : ∀ w, w < n ∧ ¬ le (x w) (y w) → ∃ t s, (t, s) ∈ (if N w then [] else A w) ∧ (t < n ∧ ¬ le (x t) (y t)) ∧ ((y t).getD 0 : Int) + s ≤ ((y w).getD 0 : Int) := by
        rintro w ⟨hw, hl⟩
        have nN : N w = false := by
          cases e : N w with
          | false => rfl
          | true => rw [x0 w hw e] at hl; exact absurd (zero_le _) hl
        have na : amt w = none := by
          cases e : amt w with
          | none => rfl
          | some c0 =>
            have e2 := S.at_ w c0 hw (by rw [nN]; exact e)
            rw [e2] at hl
            exact absurd (y1 w c0 hw e) hl
        obtain ⟨t, s, ha, hy⟩ := y2 w hw na
        have hx := sArcs w hw nN na t s ha
        refine ⟨t, s, by rw [nN]; exact ha, ⟨hA w hw t s ha, ?_⟩, ?_⟩
        · intro q
          exact hl (le_trans hx (le_trans (sh_mono s q) hy))
        · cases ey : y w with
          | none => rw [ey] at hl; exact absurd (le_none _) hl
          | some b =>
            rw [ey] at hy
            cases et : y t with
            | none => rw [et] at hy; exact hy.elim
            | some f =>
              rw [et] at hy
              have hy : ((f : Int) + s).toNat ≤ b := hy
              show (f : Int) + s ≤ (b : Int)
              omega
      -- a function along such arcs
      have ex : ∀ w, ∃ t : Nat × Int, (w < n ∧ ¬ le (x w) (y w)) → t ∈ (if N w then [] else A w) ∧ (t.1 < n ∧ ¬ le (x t.1) (y t.1)) ∧ ((y t.1).getD 0 : Int) + t.2 ≤ ((y w).getD 0 : Int) := fun w => by
        by_cases hw : w < n ∧ ¬ le (x w) (y w)
        · obtain ⟨t, s, q⟩ := step w hw
          exact ⟨(t, s), fun _ => q⟩
        · exact ⟨(0, 0), fun z => absurd z hw⟩
      have F : ∃ P : Nat → Nat × Int, ∀ w, (w < n ∧ ¬ le (x w) (y w)) → P w ∈ (if N w then [] else A w) ∧ ((P w).1 < n ∧ ¬ le (x (P w).1) (y (P w).1)) ∧ ((y (P w).1).getD 0 : Int) + (P w).2 ≤ ((y w).getD 0 : Int) :=
        ⟨fun w => Classical.choose (ex w), fun w => Classical.choose_spec (ex w)⟩
      obtain ⟨P, hP⟩ := F
      obtain ⟨z, m, hz, hm, hmn, hit⟩ := circle_in (n := n) (P := fun w => (P w).1) (D := fun w => w < n ∧ ¬ le (x w) (y w)) (fun _ h => h.1) (fun w h => (hP w h).2.1) ⟨hu, c⟩
      have hD : ∀ i, it (fun w => (P w).1) z i < n ∧ ¬ le (x (it (fun w => (P w).1) z i)) (y (it (fun w => (P w).1) z i)) := fun i => by
        induction i with
        | zero => exact hz
        | succ i ih => exact (hP _ ih).2.1
      obtain ⟨π, hπ⟩ := hp
      have q1 := tele (w := fun i => (P (it (fun w => (P w).1) z i)).2) (f := fun i => ((y (it (fun w => (P w).1) z i)).getD 0 : Int)) (m := m) (fun i _ => (hP _ (hD i)).2.2)
      have q2 := tele_ge (w := fun i => (n : Int) * (P (it (fun w => (P w).1) z i)).2 - 1) (f := fun i => π (it (fun w => (P w).1) z i)) (m := m) (fun i _ => hπ _ (hD i).1 _ _ (hP _ (hD i)).1)
      rw [sumTo_lin] at q2
      have q1 : sumTo (fun i => (P (it (fun w => (P w).1) z i)).2) m ≤ ((y z).getD 0 : Int) - ((y (it (fun w => (P w).1) z m)).getD 0 : Int) := q1
      have q2 : π z - π (it (fun w => (P w).1) z m) ≤ (n : Int) * sumTo (fun i => (P (it (fun w => (P w).1) z i)).2) m - m := q2
      rw [hit] at q1 q2
      have c : sumTo (fun i => (P (it (fun w => (P w).1) z i)).2) m ≤ 0 := by omega
      have := Int.mul_le_mul_of_nonneg_left c (show (0 : Int) ≤ n by omega)
      omega
end CS

/-! Formulas, choices made better, stages: the least solution of a flat sheet -/
namespace CS

inductive Fm where
  | amt (a : Am)
  | lst (l : List Arc)
  | gst (l : List Arc)
  | cnd (j a k : Nat)

def leastOf (a : Am) (l : List Am) : Am := l.foldl (fun f o => if le o f then o else f) a
def greatestOf (a : Am) (l : List Am) : Am := l.foldl (fun f o => if le f o then o else f) a
theorem leastOf_mem : ∀ (l : List Am) (a : Am), leastOf a l = a ∨ leastOf a l ∈ l
  | [], a => .inl rfl
  | o :: l, a => by
    show leastOf (if le o a then o else a) l = a ∨ leastOf (if le o a then o else a) l ∈ o :: l
    rcases leastOf_mem l (if le o a then o else a) with h | h
    · rw [h]
      split
      · exact .inr (by simp)
      · exact .inl rfl
    · exact .inr (List.mem_cons_of_mem _ h)
theorem leastOf_le : ∀ (l : List Am) (a : Am), le (leastOf a l) a ∧ ∀ o, o ∈ l → le (leastOf a l) o
  | [], a => ⟨le_refl _, fun o h => absurd h (by simp)⟩
  | o :: l, a => by
    show le (leastOf (if le o a then o else a) l) a ∧ ∀ o', o' ∈ o :: l → le (leastOf (if le o a then o else a) l) o'
    obtain ⟨h1, h2⟩ := leastOf_le l (if le o a then o else a)
    have e1 : le (if le o a then o else a) a := by split; · assumption
                                                   · exact le_refl _
    have e2 : le (if le o a then o else a) o := by
      split
      · exact le_refl _
      · rename_i q; exact le_of_not q
    refine ⟨le_trans h1 e1, fun o' h => ?_⟩
    rcases List.mem_cons.mp h with e | e
    · rw [e]; exact le_trans h1 e2
    · exact h2 _ e
theorem greatestOf_mem : ∀ (l : List Am) (a : Am), greatestOf a l = a ∨ greatestOf a l ∈ l
  | [], a => .inl rfl
  | o :: l, a => by
    show greatestOf (if le a o then o else a) l = a ∨ greatestOf (if le a o then o else a) l ∈ o :: l
    rcases greatestOf_mem l (if le a o then o else a) with h | h
    · rw [h]
      split
      · exact .inr (by simp)
      · exact .inl rfl
    · exact .inr (List.mem_cons_of_mem _ h)
theorem greatestOf_le : ∀ (l : List Am) (a : Am), le a (greatestOf a l) ∧ ∀ o, o ∈ l → le o (greatestOf a l)
  | [], a => ⟨le_refl _, fun o h => absurd h (by simp)⟩
  | o :: l, a => by
    show le a (greatestOf (if le a o then o else a) l) ∧ ∀ o', o' ∈ o :: l → le o' (greatestOf (if le a o then o else a) l)
    obtain ⟨h1, h2⟩ := greatestOf_le l (if le a o then o else a)
    have e1 : le a (if le a o then o else a) := by split; · assumption
                                                   · exact le_refl _
    have e2 : le o (if le a o then o else a) := by
      split
      · exact le_refl _
      · rename_i q; exact le_of_not q
    refine ⟨le_trans e1 h1, fun o' h => ?_⟩
    rcases List.mem_cons.mp h with e | e
    · rw [e]; exact le_trans e2 h1
    · exact h2 _ e
/-- of a list, beginning with its first -/
def least1 : List Am → Am
  | [] => none
  | a :: l => leastOf a (a :: l)
def greatest1 : List Am → Am
  | [] => none
  | a :: l => greatestOf a (a :: l)
theorem least1_mem {l : List Am} (h : l ≠ []) : least1 l ∈ l := by
  cases l with
  | nil => exact absurd rfl h
  | cons a l =>
    rcases leastOf_mem (a :: l) a with q | q
    · show leastOf a (a :: l) ∈ a :: l
      rw [q]; simp
    · exact q
theorem least1_le {l : List Am} : ∀ o, o ∈ l → le (least1 l) o := by
  cases l with
  | nil => intro o h; exact absurd h (by simp)
  | cons a l => exact (leastOf_le (a :: l) a).2
theorem greatest1_mem {l : List Am} (h : l ≠ []) : greatest1 l ∈ l := by
  cases l with
  | nil => exact absurd rfl h
  | cons a l =>
    rcases greatestOf_mem (a :: l) a with q | q
    · show greatestOf a (a :: l) ∈ a :: l
      rw [q]; simp
    · exact q
theorem le_greatest1 {l : List Am} : ∀ o, o ∈ l → le o (greatest1 l) := by
  cases l with
  | nil => intro o h; exact absurd h (by simp)
  | cons a l => exact (greatestOf_le (a :: l) a).2

def arcVals (l : List Arc) (x : Nat → Am) : List Am := l.map fun a => sh (x a.1) a.2
/-- the value of a formula -/
def fv (f : Fm) (x : Nat → Am) : Am := match f with
  | .amt a => a
  | .cnd j a k => if le (some a) (x j) then x k else some 0
  | .lst l => least1 (arcVals l x)
  | .gst l => greatest1 (arcVals l x)

theorem arcVals_mem {l : List Arc} {x : Nat → Am} {t : Nat} {s : Int} (h : (t, s) ∈ l) : sh (x t) s ∈ arcVals l x := List.mem_map.mpr ⟨(t, s), h, rfl⟩
theorem mem_arcVals {l : List Arc} {x : Nat → Am} {o : Am} (h : o ∈ arcVals l x) : ∃ t s, (t, s) ∈ l ∧ o = sh (x t) s := by
  obtain ⟨⟨t, s⟩, h1, h2⟩ := List.mem_map.mp h
  exact ⟨t, s, h1, h2.symm⟩
theorem arcVals_ne {l : List Arc} {x : Nat → Am} (h : l ≠ []) : arcVals l x ≠ [] := by
  cases l with
  | nil => exact absurd rfl h
  | cons a l => exact List.cons_ne_nil _ _

/-- sound formulas of a sheet of n cells -/
def FmOk (n : Nat) : Fm → Prop
  | .amt _ => True
  | .cnd j a k => j < n ∧ k < n ∧ 1 ≤ a
  | .lst l => l ≠ [] ∧ ∀ t s, (t, s) ∈ l → t < n
  | .gst l => l ≠ [] ∧ ∀ t s, (t, s) ∈ l → t < n
def NoCnd : Fm → Prop
  | .cnd _ _ _ => False
  | _ => True

/-- the arcs that are told -/
def told (f : Fm) (c : Option Nat) : List Arc := match f with
  | .amt _ => []
  | .cnd _ _ k => [(k, 0)]
  | .lst l => l
  | .gst l => match c with
    | some c => [l.getD c (0, 0)]
    | none => l
def amtOf : Fm → Option Am
  | .amt a => some a
  | _ => none
/-- choices of "greatest" -/
def ChOk (n : Nat) (P : Nat → Fm) (ch : Nat → Option Nat) : Prop := ∀ u, u < n → match P u with
  | .gst l => ∃ c, ch u = some c ∧ c < l.length
  | _ => ch u = none

/-- the least solution -/
structure LP (n : Nat) (P : Nat → Fm) (x : Nat → Am) : Prop where
  fix : ∀ u, u < n → x u = fv (P u) x
  least : ∀ y : Nat → Am, (∀ u, u < n → le (fv (P u) y) (y u)) → ∀ u, u < n → le (x u) (y u)

/-- of a sheet with choices put in -/
abbrev LC (n : Nat) (P : Nat → Fm) (ch : Nat → Option Nat) (x : Nat → Am) : Prop := Lst n (fun u => told (P u) (ch u)) (fun u => amtOf (P u)) x

section
variable {n : Nat} {P : Nat → Fm} {ch ch' : Nat → Option Nat} {x y : Nat → Am}

theorem told_lt (hP : ∀ u, u < n → FmOk n (P u)) (hc : ChOk n P ch) : ∀ u, u < n → ∀ t s, (t, s) ∈ told (P u) (ch u) → t < n := by
  intro u hu t s h
  have h1 := hP u hu
  have h2 := hc u hu
  cases e : P u with
  | amt a => rw [e] at h; exact absurd h (by simp [told])
  | cnd j a k => rw [e] at h h1; simp [told] at h; rw [h.1]; exact h1.2.1
  | lst l => rw [e] at h h1; exact h1.2 t s h
  | gst l =>
    rw [e] at h h1 h2
    obtain ⟨c, e1, e2⟩ := h2
    rw [e1] at h
    have h : (t, s) ∈ [l.getD c (0, 0)] := h
    rw [List.mem_singleton, getD_el _ _ _ e2] at h
    exact h1.2 t s (h ▸ List.getElem_mem e2)
theorem told_ne (hP : ∀ u, u < n → FmOk n (P u)) (hc : ChOk n P ch) : ∀ u, u < n → amtOf (P u) = none → told (P u) (ch u) ≠ [] := by
  intro u hu h
  have h1 := hP u hu
  have h2 := hc u hu
  cases e : P u with
  | amt a => rw [e] at h; cases h
  | cnd j a k => exact List.cons_ne_nil _ _
  | lst l => rw [e] at h1; exact h1.1
  | gst l =>
    rw [e] at h2
    obtain ⟨c, e1, e2⟩ := h2
    rw [e1]
    exact List.cons_ne_nil _ _
theorem told_amt : ∀ (ch : Nat → Option Nat) u c, amtOf (P u) = some c → told (P u) (ch u) = [] := by
  intro ch u c h
  cases e : P u with
  | amt a => rfl
  | cnd j a k => rw [e] at h; cases h
  | lst l => rw [e] at h; cases h
  | gst l => rw [e] at h; cases h

/-- a list of the choices is no less than the sheet with one choice put in: high amounts are high there -/
theorem LC.le_high (hP : ∀ u, u < n → FmOk n (P u)) (hn : ∀ u, u < n → NoCnd (P u)) (hc : ChOk n P ch) (L : LC n P ch x) (hy : ∀ u, u < n → le (fv (P u) y) (y u)) : ∀ u, u < n → le (x u) (y u) := by
  refine L.least y (fun u c hu h => ?_) (fun u hu h => ?_)
  · cases e : P u with
    | amt a => rw [e] at h; cases h; have := hy u hu; rw [e] at this; exact this
    | cnd j a k => rw [e] at h; cases h
    | lst l => rw [e] at h; cases h
    | gst l => rw [e] at h; cases h
  · have h1 := hP u hu
    have h2 := hc u hu
    have h3 := hy u hu
    have h4 := hn u hu
    cases e : P u with
    | amt a => rw [e] at h; cases h
    | cnd j a k => rw [e] at h4; exact h4.elim
    | lst l =>
      rw [e] at h1 h3
      obtain ⟨t, s, q1, q2⟩ := mem_arcVals (least1_mem (arcVals_ne (x := y) h1.1))
      exact ⟨t, s, q1, by rw [← q2]; exact h3⟩
    | gst l =>
      rw [e] at h1 h2 h3
      obtain ⟨c, e1, e2⟩ := h2
      rw [e1]
      refine ⟨(l.getD c (0, 0)).1, (l.getD c (0, 0)).2, by simp [told], ?_⟩
      refine le_trans (le_greatest1 _ (arcVals_mem ?_)) h3
      show l.getD c (0, 0) ∈ l
      rw [getD_el _ _ _ e2]
      exact List.getElem_mem e2

/-- no arc is better: the least solution of the sheet -/
theorem LC.settled (hP : ∀ u, u < n → FmOk n (P u)) (hn : ∀ u, u < n → NoCnd (P u)) (hc : ChOk n P ch) (L : LC n P ch x) (hb : ∀ u l, u < n → P u = .gst l → ∀ t s, (t, s) ∈ l → le (sh (x t) s) (x u)) : LP n P x := by
  refine ⟨fun u hu => ?_, fun y hy => L.le_high hP hn hc hy⟩
  have h1 := hP u hu
  have h2 := hc u hu
  have h4 := hn u hu
  cases e : P u with
  | amt a => exact L.at_ u a hu (by rw [e]; rfl)
  | cnd j a k => rw [e] at h4; exact h4.elim
  | lst l =>
    rw [e] at h1
    have ha : amtOf (P u) = none := by rw [e]; rfl
    refine le_antisymm ?_ ?_
    · obtain ⟨t, s, q1, q2⟩ := mem_arcVals (least1_mem (arcVals_ne (x := x) h1.1))
      show le (x u) (least1 (arcVals l x))
      rw [q2]
      exact L.all u hu ha t s (by show (t, s) ∈ told (P u) (ch u); rw [e]; exact q1)
    · obtain ⟨t, s, q1, q2⟩ := L.one u hu ha
      have q1 : (t, s) ∈ told (P u) (ch u) := q1
      rw [e] at q1
      exact le_trans (least1_le _ (arcVals_mem q1)) q2
  | gst l =>
    rw [e] at h1 h2
    have ha : amtOf (P u) = none := by rw [e]; rfl
    refine le_antisymm ?_ ?_
    · obtain ⟨c, e1, e2⟩ := h2
      have q := L.all u hu ha (l.getD c (0, 0)).1 (l.getD c (0, 0)).2 (by show _ ∈ told (P u) (ch u); rw [e, e1]; simp [told])
      refine le_trans q (le_greatest1 _ (arcVals_mem ?_))
      show l.getD c (0, 0) ∈ l
      rw [getD_el _ _ _ e2]
      exact List.getElem_mem e2
    · obtain ⟨t, s, q1, q2⟩ := mem_arcVals (greatest1_mem (arcVals_ne (x := x) h1.1))
      show le (greatest1 (arcVals l x)) (x u)
      rw [q2]
      exact hb u l hu e t s q1

/-- choices that are changed for the better -/
def Better (n : Nat) (P : Nat → Fm) (x : Nat → Am) (ch ch' : Nat → Option Nat) : Prop :=
  ∀ u, u < n → ch' u = ch u ∨ ∃ l c, P u = .gst l ∧ ch' u = some c ∧ c < l.length ∧ ¬ le (sh (x (l.getD c (0, 0)).1) (l.getD c (0, 0)).2) (x u)
theorem Better.ok (hc : ChOk n P ch) (hb : Better n P x ch ch') : ChOk n P ch' := fun u hu => by
  rcases hb u hu with h | ⟨l, c, h1, h2, h3, _⟩
  · have := hc u hu
    rw [h]; exact this
  · rw [h1]
    exact ⟨c, h2, h3⟩

/-- from step to step no amount becomes less -/
theorem Better.le (hP : ∀ u, u < n → FmOk n (P u)) (hn : ∀ u, u < n → NoCnd (P u)) (hc : ChOk n P ch) (L : LC n P ch x) (hb : Better n P x ch ch') (L' : LC n P ch' y) : ∀ u, u < n → le (x u) (y u) := by
  -- an arc of y at each cell that is no amount
  have arcY : ∀ u, u < n → ¬ CS.le (x u) (y u) → ∃ t s, (t, s) ∈ told (P u) (ch' u) ∧ CS.le (sh (y t) s) (y u) := fun u hu hl => by
    refine L'.one u hu ?_
    cases e : amtOf (P u) with
    | none => rfl
    | some c =>
      rw [L.at_ u c hu e, L'.at_ u c hu e] at hl
      exact absurd (CS.le_refl _) hl
  have amtN : ∀ u, u < n → ¬ CS.le (x u) (y u) → amtOf (P u) = none := fun u hu hl => by
    cases e : amtOf (P u) with
    | none => rfl
    | some c =>
      rw [L.at_ u c hu e, L'.at_ u c hu e] at hl
      exact absurd (CS.le_refl _) hl
  -- such an arc is an old one, or better than the old amount
  have oldOr : ∀ u t s, u < n → (t, s) ∈ told (P u) (ch' u) → (t, s) ∈ told (P u) (ch u) ∨ ¬ CS.le (sh (x t) s) (x u) := fun u t s hu h => by
    rcases hb u hu with e | ⟨l, c, h1, h2, h3, h4⟩
    · rw [e] at h; exact .inl h
    · rw [h1, h2] at h
      have h : (t, s) ∈ [l.getD c (0, 0)] := h
      rw [List.mem_singleton] at h
      rw [← h] at h4
      exact .inr h4
  have hc' := hb.ok hc
  have tl := told_lt hP hc'
  -- first: where x is endless
  have inf : ∀ u, u < n → x u = none → y u = none := by
    intro u hu hx
    cases ey : y u with
    | none => rfl
    | some b =>
      exfalso
      let z : Nat → Am := fun w => if x w = none then y w else x w
      have hz : ∀ w, CS.le (z w) (x w) := fun w => by
        show CS.le (if x w = none then y w else x w) (x w)
        split
        · rename_i q; rw [q]; exact le_none _
        · exact CS.le_refl _
      have := L.least z (fun w c hw hcw => ?_) (fun w hw hcw => ?_) u hu
      · have e : z u = y u := if_pos hx
        rw [e, hx, ey] at this
        exact this
      · show CS.le c (if x w = none then y w else x w)
        split
        · rw [L'.at_ w c hw hcw]; exact CS.le_refl _
        · rw [L.at_ w c hw hcw]; exact CS.le_refl _
      · by_cases q : x w = none
        · by_cases q2 : y w = none
          · obtain ⟨t, s, h1, h2⟩ := L.one w hw hcw
            refine ⟨t, s, h1, ?_⟩
            show CS.le _ (if x w = none then y w else x w)
            rw [if_pos q, q2]; exact le_none _
          · have hl : ¬ CS.le (x w) (y w) := fun h => q2 (none_le.mp (q ▸ h))
            obtain ⟨t, s, h1, h2⟩ := arcY w hw hl
            rcases oldOr w t s hw h1 with h3 | h3
            · refine ⟨t, s, h3, ?_⟩
              have h4 := L.all w hw hcw t s h3
              rw [q] at h4
              have h5 : x t = none := by
                cases e : x t with
                | none => rfl
                | some f => rw [e] at h4; exact h4.elim
              have e1 : z t = y t := if_pos h5
              have e2 : z w = y w := if_pos q
              rw [e1, e2]; exact h2
            · rw [q] at h3; exact absurd (le_none _) h3
        · obtain ⟨t, s, h1, h2⟩ := L.one w hw hcw
          refine ⟨t, s, h1, ?_⟩
          have e2 : z w = x w := if_neg q
          rw [e2]
          exact CS.le_trans (sh_mono s (hz t)) h2
  -- then the cells at which the fall is greatest
  intro u hu
  by_cases c : CS.le (x u) (y u)
  · exact c
  · exfalso
    let δ : Nat → Nat := fun w => (x w).getD 0 - (y w).getD 0
    obtain ⟨m, hm, dm, mx⟩ := max_of n (fun w => ¬ CS.le (x w) (y w)) δ ⟨u, hu, c⟩
    have num : ∀ w, w < n → ¬ CS.le (x w) (y w) → ∃ a b : Nat, x w = some a ∧ y w = some b ∧ b < a ∧ δ w = a - b := fun w hw hl => by
      cases ey : y w with
      | none => rw [ey] at hl; exact absurd (le_none _) hl
      | some b =>
        cases ex : x w with
        | none => have := inf w hw ex; rw [ey] at this; cases this
        | some a =>
          rw [ex, ey] at hl
          have hl : ¬ a ≤ b := hl
          refine ⟨a, b, rfl, rfl, by omega, ?_⟩
          show (x w).getD 0 - (y w).getD 0 = a - b
          rw [ex, ey]; rfl
    obtain ⟨am, bm, exm, eym, ltm, edm⟩ := num m hm dm
    let z : Nat → Am := fun w => if w < n ∧ (¬ CS.le (x w) (y w) ∧ δ w = δ m) then some ((x w).getD 0 - 1) else x w
    have hz : ∀ w, CS.le (z w) (x w) := fun w => by
      show CS.le (if w < n ∧ (¬ CS.le (x w) (y w) ∧ δ w = δ m) then some ((x w).getD 0 - 1) else x w) (x w)
      split
      · cases e : x w with
        | none => exact le_none _
        | some a => show a - 1 ≤ a; omega
      · exact CS.le_refl _
    have := L.least z (fun w c hw hcw => ?_) (fun w hw hcw => ?_) m hm
    · have e : z m = some ((x m).getD 0 - 1) := if_pos ⟨hm, dm, rfl⟩
      rw [e, exm] at this
      have this : am ≤ am - 1 := this
      omega
    · have e : z w = x w := if_neg (fun q => by
        rw [L.at_ w c hw hcw, L'.at_ w c hw hcw] at q
        exact q.2.1 (CS.le_refl _))
      rw [e, L.at_ w c hw hcw]; exact CS.le_refl _
    · by_cases q : w < n ∧ (¬ CS.le (x w) (y w) ∧ δ w = δ m)
      · have q1 := q.2.1
        have q2 := q.2.2
        obtain ⟨a, b, ex, ey, lt, ed⟩ := num w hw q1
        obtain ⟨t, s, h1, h2⟩ := arcY w hw q1
        have ht := tl w hw t s h1
        rw [ey] at h2
        cases et : y t with
        | none => rw [et] at h2; exact h2.elim
        | some e0 =>
          rw [et] at h2
          have h2 : ((e0 : Int) + s).toNat ≤ b := h2
          have hfin : x t ≠ none := fun z0 => by have := inf t ht z0; rw [et] at this; cases this
          cases ext : x t with
          | none => exact absurd ext hfin
          | some f =>
            have inD : e0 < f → ¬ CS.le (x t) (y t) ∧ δ t = f - e0 := fun hlt => by
              refine ⟨?_, ?_⟩
              · rw [ext, et]; show ¬ f ≤ e0; omega
              · show (x t).getD 0 - (y t).getD 0 = f - e0
                rw [ext, et]; rfl
            rcases oldOr w t s hw h1 with h3 | h3
            · refine ⟨t, s, h3, ?_⟩
              have h4 := L.all w hw hcw t s h3
              rw [ex, ext] at h4
              have h4 : a ≤ ((f : Int) + s).toNat := h4
              obtain ⟨d1, d2⟩ := inD (by omega)
              have d3 := mx t ht d1
              have eδ : δ t = δ m := by omega
              have e1 : z t = some ((x t).getD 0 - 1) := if_pos ⟨ht, d1, eδ⟩
              have e2 : z w = some ((x w).getD 0 - 1) := if_pos q
              rw [e1, e2, ext, ex]
              show (((f - 1 : Nat) : Int) + s).toNat ≤ a - 1
              omega
            · rw [ex, ext] at h3
              have h3 : ¬ ((f : Int) + s).toNat ≤ a := h3
              obtain ⟨d1, d2⟩ := inD (by omega)
              have d3 := mx t ht d1
              omega
      · have e2 : z w = x w := if_neg q
        obtain ⟨t, s, h1, h2⟩ := L.one w hw hcw
        refine ⟨t, s, h1, ?_⟩
        rw [e2]
        exact CS.le_trans (sh_mono s (hz t)) h2

/-- the amount of a cell at which another arc is told becomes greater -/
theorem Better.lt (hP : ∀ u, u < n → FmOk n (P u)) (hn : ∀ u, u < n → NoCnd (P u)) (hc : ChOk n P ch) (L : LC n P ch x) (hb : Better n P x ch ch') (L' : LC n P ch' y) {u : Nat} (hu : u < n) (hne : ch' u ≠ ch u) : ¬ CS.le (y u) (x u) := by
  rcases hb u hu with e | ⟨l, c, h1, h2, h3, h4⟩
  · exact absurd e hne
  · intro q
    have ha : amtOf (P u) = none := by rw [h1]; rfl
    obtain ⟨t, s, q1, q2⟩ := L'.one u hu ha
    have q1 : (t, s) ∈ told (P u) (ch' u) := q1
    rw [h1, h2] at q1
    have q1 : (t, s) ∈ [l.getD c (0, 0)] := q1
    rw [List.mem_singleton] at q1
    rw [← q1] at h4
    have ht := told_lt hP (hb.ok hc) u hu t s (by rw [h1, h2]; show (t, s) ∈ [l.getD c (0, 0)]; rw [List.mem_singleton]; exact q1)
    exact h4 (CS.le_trans (sh_mono s (hb.le hP hn hc L L' t ht)) (CS.le_trans q2 q))
end
end CS

/-! The loops of choices and of stages: what holds, what falls, what is left at the end -/
namespace CS

theorem countP_lt {α : Type} (p q : α → Bool) : ∀ (l : List α), (∀ a, a ∈ l → p a = true → q a = true) → (∃ a, a ∈ l ∧ q a = true ∧ p a = false) → l.countP p < l.countP q
  | [], _, h => by obtain ⟨a, h, _⟩ := h; exact absurd h (by simp)
  | b :: l, h, k => by
    have hm : l.countP p ≤ l.countP q := List.countP_mono_left fun a ha => h a (List.mem_cons_of_mem _ ha)
    rw [List.countP_cons, List.countP_cons]
    obtain ⟨a, h1, h2, h3⟩ := k
    rcases List.mem_cons.mp h1 with e | e
    · subst e
      rw [h2, h3]
      show l.countP p + 0 < l.countP q + 1
      omega
    · have ih := countP_lt p q l (fun a ha => h a (List.mem_cons_of_mem _ ha)) ⟨a, e, h2, h3⟩
      have hb := h b (by simp)
      cases ep : p b with
      | false => show l.countP p + 0 < _; omega
      | true => rw [hb ep]; show l.countP p + 1 < l.countP q + 1; omega

/-- all lists of n of these -/
def allL {α : Type} (as : List α) : Nat → List (List α)
  | 0 => [[]]
  | n + 1 => (allL as n).flatMap fun l => as.map fun a => a :: l
theorem mem_allL {α : Type} {as : List α} : ∀ {n : Nat} {l : List α}, l.length = n → (∀ a, a ∈ l → a ∈ as) → l ∈ allL as n
  | 0, l, h, _ => by
    cases l with
    | nil => simp [allL]
    | cons a l => simp at h
  | n + 1, l, h, k => by
    cases l with
    | nil => simp at h
    | cons a l =>
      refine List.mem_flatMap.mpr ⟨l, mem_allL (by simpa using h) (fun b hb => k b (List.mem_cons_of_mem _ hb)), List.mem_map.mpr ⟨a, k a (by simp), rfl⟩⟩

abbrev Ch := List (Option Nat)
abbrev chF (c : Ch) : Nat → Option Nat := fun u => c.getD u none
abbrev xF (x : List Am) : Nat → Am := fun u => x.getD u none

section
variable {n : Nat} {P : Nat → Fm} {ch ch' : Nat → Option Nat} {x y : Nat → Am}
theorem LC.unique (L : LC n P ch x) (L' : LC n P ch y) : ∀ u, u < n → le (x u) (y u) :=
  L.least y (fun u c hu h => by rw [L'.at_ u c hu h]; exact le_refl _) L'.one

def Above (n : Nat) (x y : Nat → Am) : Prop := (∀ u, u < n → le (x u) (y u)) ∧ ∃ u, u < n ∧ ¬ le (y u) (x u)
theorem Above.trans {z : Nat → Am} (a : Above n x y) (b : Above n y z) : Above n x z := by
  obtain ⟨h1, u, hu, h2⟩ := a
  exact ⟨fun v hv => le_trans (h1 v hv) (b.1 v hv), u, hu, fun q => h2 (le_trans (b.1 u hu) q)⟩

open Classical in
/-- how many choices make more -/
noncomputable def up (n : Nat) (P : Nat → Fm) (all : List Ch) (x : Nat → Am) : Nat := all.countP fun c => decide (∃ z, LC n P (chF c) z ∧ Above n x z)
theorem up_lt {all : List Ch} {c : Ch} (hc : c ∈ all) (L : LC n P (chF c) y) (a : Above n x y) : up n P all y < up n P all x := by
  classical
  refine countP_lt _ _ _ (fun d _ h => ?_) ⟨c, hc, ?_, ?_⟩
  · obtain ⟨z, h1, h2⟩ := of_decide_eq_true h
    exact decide_eq_true ⟨z, h1, a.trans h2⟩
  · exact decide_eq_true ⟨y, L, a⟩
  · refine decide_eq_false ?_
    rintro ⟨z, h1, _, u, hu, h2⟩
    exact h2 (h1.unique L u hu)
theorem up_le (all : List Ch) : up n P all x ≤ all.length := List.countP_le_length

/-- the choices of a sheet whose lists of arcs have at most six -/
def allCh (n : Nat) : List Ch := allL [none, some 0, some 1, some 2, some 3, some 4, some 5] n
theorem mem_allCh {c : Ch} (h : c.length = n) (hc : ChOk n P (chF c)) (h6 : ∀ u l, u < n → P u = .gst l → l.length ≤ 6) : c ∈ allCh n := by
  refine mem_allL h fun a ha => ?_
  obtain ⟨u, hu, e⟩ := List.getElem_of_mem ha
  have h1 := hc u (by omega)
  have e2 : chF c u = a := by show c.getD u none = a; rw [getD_el _ _ _ hu, e]
  rw [e2] at h1
  cases a with
  | none => simp
  | some k =>
    cases eP : P u with
    | amt a => rw [eP] at h1; cases h1
    | lst l => rw [eP] at h1; cases h1
    | cnd j a k => rw [eP] at h1; cases h1
    | gst l =>
      rw [eP] at h1
      obtain ⟨c0, q1, q2⟩ := h1
      have q1 : k = c0 := Option.some.inj q1
      have := h6 u l (by omega) eP
      have hk : k < 6 := by omega
      match k, hk with
      | 0, _ | 1, _ | 2, _ | 3, _ | 4, _ | 5, _ => simp

/-- the value of the i-th arc -/
def av (l : List Arc) (x : Nat → Am) (i : Nat) : Am := sh (x (l.getD i (0, 0)).1) (l.getD i (0, 0)).2
/-- the search for better arcs: the cells below v are done, of v the arcs below j -/
structure Bt (n : Nat) (P : Nat → Fm) (x : Nat → Am) (c b : Ch) (v j : Nat) : Prop where
  len : b.length = n
  bet : Better n P x (chF c) (chF b)
  nob : ∀ u l i, u < n → chF b u = chF c u → P u = .gst l → i < l.length → u < v ∨ (u = v ∧ i < j) → ¬ (¬ le (av l x i) (x u) ∧ av l x i = greatest1 (arcVals l x))
theorem Bt.start {c : Ch} (h : c.length = n) : Bt n P x c c 0 0 := ⟨h, fun _ _ => .inl rfl, fun u l i _ _ _ _ h => by omega⟩
theorem Bt.cell {c b : Ch} {v j : Nat} (B : Bt n P x c b v j) (h : ∀ l, P v = .gst l → l.length ≤ j) : Bt n P x c b (v + 1) 0 :=
  ⟨B.len, B.bet, fun u l i hu e1 e2 hi q => B.nob u l i hu e1 e2 hi (by
    by_cases e : u = v
    · subst e; have := h l e2; exact .inr ⟨rfl, by omega⟩
    · exact .inl (by omega))⟩
theorem Bt.skip {c b : Ch} {v j : Nat} {l : List Arc} (B : Bt n P x c b v j) (hv : P v = .gst l) (h : ¬ (¬ le (av l x j) (x v) ∧ av l x j = greatest1 (arcVals l x))) : Bt n P x c b v (j + 1) :=
  ⟨B.len, B.bet, fun u l' i hu e1 e2 hi q => by
    by_cases e : u = v ∧ i = j
    · obtain ⟨e3, e4⟩ := e
      subst e3 e4
      rw [hv] at e2
      cases e2
      exact h
    · exact B.nob u l' i hu e1 e2 hi (by omega)⟩
theorem Bt.take {c b : Ch} {v j : Nat} {l : List Arc} (B : Bt n P x c b v j) (hc : ChOk n P (chF c)) (L : LC n P (chF c) x) (hvn : v < n) (hv : P v = .gst l) (hj : j < l.length) (h : ¬ le (av l x j) (x v)) : Bt n P x c (b.set v (some j)) v (j + 1) := by
  have hl : v < b.length := by rw [B.len]; exact hvn
  have eD := getD_set b v (some j) none hl
  have at_ : chF (b.set v (some j)) v = some j := by
    have q := congrFun eD v
    rw [fset_same] at q
    exact q
  have ne_ : ∀ u, u ≠ v → chF (b.set v (some j)) u = chF b u := fun u e => by
    have q := congrFun eD u
    rw [fset_ne e] at q
    exact q
  refine ⟨by rw [List.length_set]; exact B.len, fun u hu => ?_, fun u l' i hu e1 e2 hi q => ?_⟩
  · by_cases e : u = v
    · subst e
      exact .inr ⟨l, j, hv, at_, hj, h⟩
    · rw [ne_ u e]; exact B.bet u hu
  · by_cases e : u = v
    · subst e
      exfalso
      rw [at_] at e1
      -- the told arc's value is the amount
      obtain ⟨t, s, h1, h2⟩ := L.one u hvn (by rw [hv]; rfl)
      have h1 : (t, s) ∈ told (P u) (chF c u) := h1
      rw [hv, ← e1] at h1
      have h1 : (t, s) ∈ [l.getD j (0, 0)] := h1
      rw [List.mem_singleton] at h1
      apply h
      show le (sh (x (l.getD j (0, 0)).1) (l.getD j (0, 0)).2) (x u)
      rw [← h1]; exact h2
    · rw [ne_ u e] at e1
      exact B.nob u l' i hu e1 e2 hi (by omega)
/-- nothing was better -/
theorem Bt.done {c : Ch} {j : Nat} (B : Bt n P x c c n j) (hP : ∀ u, u < n → FmOk n (P u)) (hn : ∀ u, u < n → NoCnd (P u)) (hc : ChOk n P (chF c)) (L : LC n P (chF c) x) : LP n P x := by
  refine L.settled hP hn hc fun u l hu e t s hts => ?_
  by_cases q : le (sh (x t) s) (x u)
  · exact q
  · exfalso
    have hne : l ≠ [] := List.ne_nil_of_mem hts
    obtain ⟨t', s', m1, m2⟩ := mem_arcVals (greatest1_mem (arcVals_ne (x := x) hne))
    obtain ⟨i, hi, e2⟩ := List.getElem_of_mem m1
    have ea : av l x i = greatest1 (arcVals l x) := by
      rw [m2]
      unfold av
      rw [getD_el _ _ _ hi, e2]
    refine B.nob u l i hu rfl e hi (.inl hu) ⟨fun z => q ?_, ea⟩
    rw [ea] at z
    exact le_trans (le_greatest1 _ (arcVals_mem hts)) z
/-- something was -/
theorem Bt.above {c b : Ch} {j : Nat} (B : Bt n P x c b n j) (hP : ∀ u, u < n → FmOk n (P u)) (hn : ∀ u, u < n → NoCnd (P u)) (hl : c.length = n) (hc : ChOk n P (chF c)) (L : LC n P (chF c) x) (hne : b ≠ c) (L' : LC n P (chF b) y) : Above n x y := by
  refine ⟨B.bet.le hP hn hc L L', ?_⟩
  by_cases q : ∃ u, u < n ∧ chF b u ≠ chF c u
  · obtain ⟨u, hu, h⟩ := q
    exact ⟨u, hu, B.bet.lt hP hn hc L L' hu h⟩
  · exfalso
    apply hne
    refine List.ext_getElem (by rw [B.len, hl]) fun u h1 h2 => ?_
    by_cases e : chF b u = chF c u
    · have e : b.getD u none = c.getD u none := e
      rw [getD_el _ _ _ h1, getD_el _ _ _ h2] at e
      exact e
    · exact absurd ⟨u, by rw [← hl]; exact h2, e⟩ q
end

/-! ### stages -/
section
variable {n : Nat} {F : Nat → Fm} {o o' : Nat → Bool} {x y : Nat → Am}
/-- the sheet with the conditions o open -/
def op (F : Nat → Fm) (o : Nat → Bool) (u : Nat) : Fm := match F u with
  | .cnd _ _ k => if o u then .gst [(k, 0)] else .amt (some 0)
  | f => f
/-- the condition is fulfilled -/
def ful (F : Nat → Fm) (x : Nat → Am) (u : Nat) : Bool := match F u with
  | .cnd j a _ => decide (le (some a) (x j))
  | _ => false
def isC (f : Fm) : Bool := match f with
  | .cnd _ _ _ => true
  | _ => false
theorem op_ok (hF : ∀ u, u < n → FmOk n (F u)) : ∀ u, u < n → FmOk n (op F o u) := fun u hu => by
  have h := hF u hu
  unfold op
  cases e : F u with
  | amt a => exact trivial
  | lst l => rw [e] at h; exact h
  | gst l => rw [e] at h; exact h
  | cnd j a k =>
    rw [e] at h
    show FmOk n (if o u then .gst [(k, 0)] else .amt (some 0))
    split
    · refine ⟨List.cons_ne_nil _ _, fun t s hm => ?_⟩
      rw [List.mem_singleton] at hm
      cases hm
      exact h.2.1
    · exact trivial
theorem op_noc : ∀ u, NoCnd (op F o u) := fun u => by
  unfold op
  cases F u with
  | amt a => exact trivial
  | lst l => exact trivial
  | gst l => exact trivial
  | cnd j a k =>
    show NoCnd (if o u then .gst [(k, 0)] else .amt (some 0))
    split <;> exact trivial
theorem op_six (h6 : ∀ u l, u < n → F u = .gst l → l.length ≤ 6) : ∀ u l, u < n → op F o u = .gst l → l.length ≤ 6 := fun u l hu e => by
  unfold op at e
  cases eF : F u with
  | amt a => rw [eF] at e; cases e
  | lst l => rw [eF] at e; cases e
  | gst l => rw [eF] at e; cases e; exact h6 u _ hu eF
  | cnd j a k =>
    rw [eF] at e
    have e : (if o u then Fm.gst [(k, 0)] else .amt (some 0)) = .gst l := e
    split at e
    · cases e; show 1 ≤ 6; omega
    · cases e
theorem sh_zero (a : Am) : sh a 0 = a := by
  cases a with
  | none => rfl
  | some a => show some ((a : Int) + 0).toNat = some a; congr 1
theorem fv_open (k : Nat) : fv (.gst [(k, 0)]) x = x k := by
  show (if le (sh (x k) 0) (sh (x k) 0) then sh (x k) 0 else sh (x k) 0) = x k
  rw [sh_zero]; split <;> rfl
/-- what holds at the beginning of a stage whose open conditions are o -/
structure Stg (n : Nat) (F : Nat → Fm) (o : Nat → Bool) : Prop where
  low : ∀ y : Nat → Am, (∀ u, u < n → y u = fv (F u) y) → ∀ u, u < n → o u = true → ful F y u = true
  keep : ∀ x : Nat → Am, LP n (op F o) x → ∀ u, u < n → o u = true → ful F x u = true
theorem Stg.start : Stg n F (fun _ => false) := ⟨fun _ _ _ _ h => (nomatch h), fun _ _ _ _ h => (nomatch h)⟩
theorem ful_mono (hF : ∀ u, u < n → FmOk n (F u)) (h : ∀ u, u < n → le (x u) (y u)) {u : Nat} (hu : u < n) (hf : ful F x u = true) : ful F y u = true := by
  unfold ful at hf ⊢
  have h1 := hF u hu
  cases e : F u with
  | amt a => rw [e] at hf; cases hf
  | lst l => rw [e] at hf; cases hf
  | gst l => rw [e] at hf; cases hf
  | cnd j a k =>
    rw [e] at hf h1
    exact decide_eq_true (le_trans (of_decide_eq_true hf) (h j h1.1))
theorem Stg.le (S : Stg n F o) (L : LP n (op F o) x) (hy : ∀ u, u < n → y u = fv (F u) y) : ∀ u, u < n → le (x u) (y u) := by
  refine L.least y fun u hu => ?_
  have h1 := S.low y hy u hu
  have h2 := hy u hu
  unfold op
  cases e : F u with
  | amt a => rw [e] at h2; rw [h2]; exact le_refl _
  | lst l => rw [e] at h2; rw [h2]; exact le_refl _
  | gst l => rw [e] at h2; rw [h2]; exact le_refl _
  | cnd j a k =>
    show CS.le (fv (if o u then .gst [(k, 0)] else .amt (some 0)) y) (y u)
    cases eo : o u with
    | false => exact zero_le _
    | true =>
      have q := h1 eo
      unfold ful at q
      rw [e] at q h2
      have h2 : y u = if CS.le (some a) (y j) then y k else some 0 := h2
      rw [if_pos (of_decide_eq_true q)] at h2
      show CS.le (fv (.gst [(k, 0)]) y) (y u)
      rw [fv_open, h2]
      exact le_refl _
theorem Stg.next (S : Stg n F o) (hF : ∀ u, u < n → FmOk n (F u)) (L : LP n (op F o) x) : Stg n F (ful F x) := by
  refine ⟨fun y hy u hu h => ful_mono hF (S.le L hy) hu h, fun x' L' u hu h => ful_mono hF (L.least x' fun v hv => ?_) hu h⟩
  have h2 := L'.fix v hv
  have h3 := S.keep x L v hv
  unfold op at h2 ⊢
  cases e : F v with
  | amt a => rw [e] at h2; rw [h2]; exact le_refl _
  | lst l => rw [e] at h2; rw [h2]; exact le_refl _
  | gst l => rw [e] at h2; rw [h2]; exact le_refl _
  | cnd j a k =>
    rw [e] at h2
    show CS.le (fv (if o v then .gst [(k, 0)] else .amt (some 0)) x') (x' v)
    cases eo : o v with
    | false => exact zero_le _
    | true =>
      have h2 : x' v = fv (if ful F x v then .gst [(k, 0)] else .amt (some 0)) x' := h2
      rw [h3 eo] at h2
      rw [h2]
      exact le_refl _
/-- the last stage -/
theorem Stg.last (_S : Stg n F o) (L : LP n (op F o) x) (h : ∀ u, u < n → ful F x u = (isC (F u) && o u)) : ∀ u, u < n → x u = fv (F u) x := by
  intro u hu
  have h1 := h u hu
  have h2 := L.fix u hu
  unfold op at h2
  unfold ful at h1
  cases e : F u with
  | amt a => rw [e] at h2; exact h2
  | lst l => rw [e] at h2; exact h2
  | gst l => rw [e] at h2; exact h2
  | cnd j a k =>
    rw [e] at h1 h2
    have h1 : decide (CS.le (some a) (x j)) = (true && o u) := h1
    have h2 : x u = fv (if o u then .gst [(k, 0)] else .amt (some 0)) x := h2
    show x u = if CS.le (some a) (x j) then x k else some 0
    cases eo : o u with
    | true =>
      rw [eo] at h1 h2
      rw [if_pos (of_decide_eq_true (show decide (CS.le (some a) (x j)) = true from h1)), h2]
      exact fv_open k
    | false =>
      rw [eo] at h1 h2
      rw [if_neg (of_decide_eq_false (show decide (CS.le (some a) (x j)) = false from h1)), h2]
      rfl
/-- more are open, or as many -/
theorem filter_lt {α : Type} (p q : α → Bool) : ∀ l : List α, (∀ a, a ∈ l → p a = true → q a = true) → l.filter p = l.filter q ∨ (l.filter p).length < (l.filter q).length
  | [], _ => .inl rfl
  | b :: l, h => by
    have ih := filter_lt p q l fun a ha => h a (List.mem_cons_of_mem _ ha)
    have hb := h b (by simp)
    cases ep : p b with
    | true =>
      rw [List.filter_cons_of_pos ep, List.filter_cons_of_pos (hb ep)]
      rcases ih with e | e
      · exact .inl (by rw [e])
      · exact .inr (by simpa using e)
    | false =>
      rw [List.filter_cons_of_neg (by rw [ep]; exact Bool.false_ne_true)]
      cases eq : q b with
      | true =>
        rw [List.filter_cons_of_pos eq]
        refine .inr ?_
        rw [List.length_cons]
        rcases ih with e | e
        · rw [e]; omega
        · omega
      | false =>
        rw [List.filter_cons_of_neg (by rw [eq]; exact Bool.false_ne_true)]
        exact ih
end
end CS

/-! A lambda of one parameter that reads one captured int, handed to a def and called there -/
namespace WK
open PySem PySem.Spec PyProof.Rows L2 LamX

/-- the lambda's names: one parameter, one captured name -/
structure Lam1 (scope : Scope) (par cap : Str) : Prop where
  kind : scope.kind = .function
  co : scope.isCoroutine = false
  gen : scope.isGenerator = false
  nocell : ∀ y ∈ scope.names, y.2 ≠ .cell
  hpar : scope.names.lookup par = some .local
  hcap : scope.names.lookup cap = some .free
  capM : (cap, NameKind.free) ∈ scope.names
  only : ∀ y ∈ scope.names, y.2 = .free → y.1 = cap
  ne : ¬ par = cap

/-- what the call of it makes: from the slots of the def that calls it -/
def tAct (f c' : Addr) (q : Str) (n : Int) (iw ip : Nat) : TE := fun σ H Q => ∃ j : Int, σ[iw]? = some (some (.ref f)) ∧ σ[ip]? = some (some (.int j)) ∧ H c' = some (CodeO c' q) ∧ Q (.int (n * j - 1)) H

section
variable {X : Cx} {pins : List (Addr × Obj)} {σ : L2.St} {H : Hp} {s : Shared}
theorem act_rule {Ng : List Str} {qg cap par a pa : Str} {sg : Scope} {g f c' : Addr} {cdg pm ctv : Value} {params : Arguments} {scope : Scope} {b1 b2 b3 b4 b5 p1 p2 p3 : Pos} {jc iw ip kk : Nat} {n : Int}
    (I : Inv X pins σ H s) (L : Lam1 scope par cap) (hcell : X.env.scope.names.lookup cap = some .cell) (hcN : X.N[jc]? = some cap) (hcv : σ[jc]? = some (some (.int n))) (hn : -(2 ^ 64) < n ∧ n < 2 ^ 64)
    (hf : s.heap.get? f = some (PySem.W.kla_obj "<lambda>" (X.env.qual ++ "<lambda>") params (.BinOp (.BinOp (.Name cap b1) .Mult (.Name par b2) b3) .Sub (.Constant (.int 1) kk b4) b5) scope (cloFrom X.env.cells scope.names []) pm c' ctv))
    (hfn : H f = none) (hfr : f ∉ frs X.stack) (hbind : ∀ u : Value, bindArgs (PySem.W.kla_fn "<lambda>" (X.env.qual ++ "<lambda>") params (.BinOp (.BinOp (.Name cap b1) .Mult (.Name par b2) b3) .Sub (.Constant (.int 1) kk b4) b5) scope (cloFrom X.env.cells scope.names []) pm (.ref c') ctv) ⟨[u], []⟩ = pure [(par, u)])
    (hr : Room 1 (X.A.deeper (envOfC qg sg s.heap.objs.size g cdg)))
    (hNw : Ng[iw]? = some a) (hva : Vis sg a) (hNp : Ng[ip]? = some pa) (hvp : Vis sg pa)
    (hda : (a == ("__debug__" : Str)) = false := by decide) (hca : (a == ("__classdict__" : Str)) = false := by decide) (hdp : (pa == ("__debug__" : Str)) = false := by decide) (hcp : (pa == ("__classdict__" : Str)) = false := by decide)
    (hd1 : (cap == ("__debug__" : Str)) = false := by decide) (hc1 : (cap == ("__classdict__" : Str)) = false := by decide) (hd2 : (par == ("__debug__" : Str)) = false := by decide) :
    PE ((cxOf CX0 X.prog X.w X.K X.mg X.base Ng qg sg g cdg X.A X.stack s H E0).nox) (.Call (.Name a p1) [.Name pa p3] [] p2) (tAct f c' (X.env.qual ++ "<lambda>") n iw ip) := by
  refine ⟨fun pinsZ sZ σZ HZ Q IZ h => ?_⟩
  obtain ⟨j, hs, hj, hc, hq⟩ := h
  have objAt : ∀ {H1 : Hp} {s1 : Shared}, Inv ((cxOf CX0 X.prog X.w X.K X.mg X.base Ng qg sg g cdg X.A X.stack s H E0).nox) pinsZ σZ H1 s1 → s1.heap.get? f = some _ := fun {H1 s1} I1 =>
    I1.base.keep f _ hf hfn hfr (fun z => nomatch (show f ∈ ([] : List Addr) from z))
  refine wpAny_Call_Name_kw (thn ((pe_var (pos := p1) (i := iw) hNw hva hda hca).run pinsZ sZ σZ HZ (fun v H1 => v = .ref f ∧ H1 = HZ) IZ ⟨.ref f, hs, rfl, rfl⟩) fun u s1 ⟨v, H1, I1, r1, q1⟩ => ?_)
  obtain ⟨ev, eH⟩ := q1
  subst ev
  rw [eH] at I1
  obtain rfl : u = Value.ref f := r1
  have hargs := pa_cons (X := (cxOf CX0 X.prog X.w X.K X.mg X.base Ng qg sg g cdg X.A X.stack s H E0).nox) (pe_var (pos := p3) (i := ip) hNp hvp hdp hcp) pa_nil
  refine PySem.W.callWith_F (first := []) ⟨_, _, _, _, objAt I1⟩ (thn (hargs.run p2 pinsZ s1 σZ HZ (fun vs H1 => vs = [.int j] ∧ H1 = HZ) I1 ⟨.int j, hj, rfl, rfl⟩) fun us s2 ⟨vs, H2, I2, r2, q2⟩ => ?_) (by rfl) (by rfl)
  obtain ⟨e1, e2⟩ := q2
  subst e1
  rw [e2] at I2
  obtain ⟨u, e3, t, e4⟩ := vals1 r2
  subst e3 e4
  refine ⟨⟨_, _, _, _, objAt I2⟩, ?_⟩
  -- the cell of the captured name
  obtain ⟨m, _, hl⟩ := I.loc
  obtain ⟨w', rw', lk⟩ := hl jc cap _ hcN hcv (.inr (.inl hcell))
  obtain ⟨t0, rfl⟩ := rw'
  obtain ⟨c0, hc0, hcell0⟩ : ∃ c, X.env.cells.lookup cap = some c ∧ s.heap.IsCell c (some (.int n t0)) := by
    rcases lk with ⟨k1, _⟩ | ⟨_, c, k2, k3⟩
    · have k1' : X.env.scope.names.lookup cap = some .local := k1
      rw [hcell] at k1'
      cases k1'
    · exact ⟨c, k2, k3⟩
  have hclo : (cloFrom X.env.cells scope.names []).lookup cap = some c0 := by
    obtain ⟨c1, h1⟩ := mem_lookup (cloFrom_has (cells := X.env.cells) (acc := []) L.capM)
    rcases cloFrom_mem (PySem.mem_of_lookup h1) with hm | ⟨_, h3⟩
    · cases hm
    · rw [h1, h3, hc0] <;> rfl
  have un : Un (frs X.stack) [] H HZ s.heap s2.heap := I2.base
  have cell2 : s2.heap.IsCell c0 (some (.int n t0)) := by
    obtain ⟨o, ho, hd⟩ := hcell0
    obtain ⟨sl, e⟩ := un.any ho (I.freeC _ _ hc0) (by simp)
    exact ⟨_, e, hd⟩
  obtain ⟨⟨oc, vs, tq, hoc, hdc, hvc⟩, _, _⟩ := I2.hok c' _ hc
  have rc : codeAny (model X.prog X.w) (X.A.deeper (envOfC qg sg s.heap.objs.size g cdg)) (.call (.ref f) ⟨[.int j t], []⟩) (CR CX0 (envOfC qg sg s.heap.objs.size g cdg :: X.stack) X.prog X.w HZ s2 Q E0) s2 := by
    refine PySem.W.kla_callFunE hr.depth (objAt I2) rfl L.co L.gen rfl ⟨c', oc, vs, tq, rfl, hoc, hdc, hvc⟩ ?_
    rw [hbind]
    refine wpAny_pure (wpAny_newFunctionEnv L.nocell (fun y hy => ?_) (fun h₁ hns hsb => ⟨I2.nolimit.fresh _ hsb, ?_⟩) L.kind)
    · rw [List.mem_singleton] at hy
      rw [hy]
      exact L.hpar
    · have kp : ∀ b o, s2.heap.get? b = some o → h₁.get? b = some o := fun b o e => hsb.extBut b o (Nat.ne_of_lt (Heap.lt_size e)) (Heap.get?_push_of_some _ e)
      refine PySem.W.kla_codeExpr ?_
      refine wpAny_BinOp (wpAny_BinOp (wpAny_Name (wpAny_loadName_free L.kind L.hcap hclo (cell2.keeps kp) ?_ hc1) hd1))
      refine wpAny_Name (wpAny_loadName_local L.kind L.hpar hns (v := .int j t) (by simp) ?_) hd2
      refine mul_int ?_ (.of_left (intBits_le_64 hn.1 hn.2))
      refine wpAny_Constant_int ?_
      refine sub_int ?_
      exact ⟨.int (n * j - 1), HZ, rfl, I2.bare, Un.kept kp, I2.hok.kept kp, ⟨_, rfl⟩, hq⟩
  refine wpAny_call (codeAny_mono rc fun r s' hq' => ?_)
  cases r with
  | error e => exact (show False from hq').elim
  | ok fl =>
    cases fl with
    | ret u => exact I2.after hq'
    | next => exact False.elim hq'
    | brk => exact False.elim hq'
    | cont => exact False.elim hq'

/-- x(e, lambda par: cap * par - 1): what x promises of the value of e, the captured int, the heap -/
def tLamC (T : List (Addr × Str)) (jc : Nat) (sp : V → Int → Hp → VK → Prop) (te : TE) : TE := fun σ H Q => te σ H fun v H1 => ∃ n : Int, σ[jc]? = some (some (.int n)) ∧ (-(2 ^ 64) < n ∧ n < 2 ^ 64) ∧ Tabs T H1 ∧ ∀ H2, ExtN H1 H2 → Tabs T H2 → sp v n H2 Q

theorem call_lam {T : List (Addr × Str)} {x cap par a0 a pa : Str} {st : Stmt} {g c P : Addr} {fd : FuncData} {Ng : List Str} {params : Arguments} {scope : Scope} {b1 b2 b3 b4 b5 p lpos pos : Pos} {jc ip kk : Nat} {e : Expr} {te : TE}
    {sp : V → Int → Hp → VK → Prop} (he : PE X e te) (F : Fun X.K x x st g fd) (hg : Gl X x) (hm : X.mg x = some (.ref g)) (hb : Binds X.K fd [a0, a] []) (Sg : FnScope Ng [a0, a] (defScope st))
    (L : Lam1 scope par cap) (hcell : X.env.scope.names.lookup cap = some .cell) (hcN : X.N[jc]? = some cap)
    (hNw : Ng[1]? = some a) (hva : Vis (defScope st) a) (hNp : Ng[ip]? = some pa) (hvp : Vis (defScope st) pa)
    (hG : ∀ (cdv : Value) (A : Around) (outer : List Env) (s : Shared) (H : Hp) (f c' : Addr) (v : V) (n : Int) (Q : VK), Room 1 (A.deeper (envOfC x (defScope st) s.heap.objs.size g cdv)) →
      (∀ p1 p2 p3 : Pos, PE ((cxOf CX0 X.prog X.w X.K X.mg X.base Ng x (defScope st) g cdv A outer s H E0).nox) (.Call (.Name a p1) [.Name pa p3] [] p2) (tAct f c' (X.env.qual ++ "<lambda>") n 1 ip)) →
      H c' = some (CodeO c' (X.env.qual ++ "<lambda>")) → sp v n H Q →
      ∃ t, PSs ((cxOf CX0 X.prog X.w X.K X.mg X.base Ng x (defScope st) g cdv A outer s H E0).nox) (defBody st) t ∧ t { nx := fun _ H' => Q .non H', rt := Q } (start Ng [v, .ref f]) H)
    (TB : TabB X.base X.mg c P) (hcode : X.env.code = .ref c) (hmT : (P, X.env.qual ++ "<lambda>") ∈ T) (hu : ∀ p ∈ T, p.1 = P → p.2 = X.env.qual ++ "<lambda>") (hr : Room 2 X.A)
    (hdef : defaultsOf params X.env = ([], []))
    (hbind : ∀ (q : Str) (cl : List (Str × Addr)) (pm cv ctv u : Value), bindArgs (PySem.W.kla_fn "<lambda>" q params (.BinOp (.BinOp (.Name cap b1) .Mult (.Name par b2) b3) .Sub (.Constant (.int 1) kk b4) b5) scope cl pm cv ctv) ⟨[u], []⟩ = pure [(par, u)])
    (he1 : starEach [e, .Lambda params (.BinOp (.BinOp (.Name cap b1) .Mult (.Name par b2) b3) .Sub (.Constant (.int 1) kk b4) b5) scope lpos] X.env = (false, eval e X.env) :: starEach [.Lambda params (.BinOp (.BinOp (.Name cap b1) .Mult (.Name par b2) b3) .Sub (.Constant (.int 1) kk b4) b5) scope lpos] X.env := by rfl)
    (hdb : (x == ("__debug__" : Str)) = false := by decide) (hda : (a == ("__debug__" : Str)) = false := by decide) (hca : (a == ("__classdict__" : Str)) = false := by decide) (hdp : (pa == ("__debug__" : Str)) = false := by decide) (hcp : (pa == ("__classdict__" : Str)) = false := by decide)
    (hd1 : (cap == ("__debug__" : Str)) = false := by decide) (hc1 : (cap == ("__classdict__" : Str)) = false := by decide) (hd2 : (par == ("__debug__" : Str)) = false := by decide) :
    PE X (.Call (.Name x p) [e, .Lambda params (.BinOp (.BinOp (.Name cap b1) .Mult (.Name par b2) b3) .Sub (.Constant (.int 1) kk b4) b5) scope lpos] [] pos) (tLamC T jc sp te) := by
  refine ⟨fun pins s σ H Q I h => ?_⟩
  refine wpAny_Call_Name_kw (ld_glob I hg hm ?_ hdb)
  refine PySem.W.callWith_K (h₀ := X.base) I.ok.mod.kin F.kp ?_ he1 (by rfl)
  rw [he1]
  show wpAny _ _ (spliced ((false, eval e X.env) :: (false, eval (.Lambda params (.BinOp (.BinOp (.Name cap b1) .Mult (.Name par b2) b3) .Sub (.Constant (.int 1) kk b4) b5) scope lpos) X.env) :: backTo pos (starEach [] X.env))) _ _ s
  refine Calls.spliced_cons (thn (he.run pins s σ H _ I h) fun u1 s1 ⟨v, H1, I1, r1, q1⟩ => ?_)
  obtain ⟨n, hcv, hn, hT, hsp⟩ := q1
  have hfree : ∀ y ∈ scope.names, y.2 = .free → ∃ c, X.env.cells.lookup y.1 = some c := fun y hy e => by
    rw [L.only y hy e]
    exact I.ok.has _ (.inl hcell)
  refine Calls.spliced_cons (lam_make2 I1 TB hcode hmT hu hT hdef hfree fun f c' pm' ctv H2 s2 I2 eN T2 hf hfn hfr hco => ?_)
  refine Calls.spliced_nil ⟨I2.kIn, ?_⟩
  obtain ⟨oc, od, kV, doc, pm, an, cdv, ct, osl, efd, lk, hcd⟩ := F.ex
  subst efd
  have rc : codeAny (model X.prog X.w) X.A (.call (.ref g) ⟨[u1, .ref f], []⟩) (CR CX0 X.stack X.prog X.w H2 s2 Q E0) s2 := by
    refine run_ofS (k := 1) (N := Ng) (ps := [a0, a]) (us := [u1, .ref f]) (vs := [v, .ref f]) lk hcd Sg hr I2.env0 (by
      have q := hb s2 [u1, .ref f] I2.kIn (by rfl)
      exact q) (.cons r1 (.cons rfl .nil)) rfl fun hr' => ?_
    obtain ⟨t, ht, hq⟩ := hG cdv X.A X.stack s2 H2 f c' v n Q hr' (fun p1 p2 p3 => act_rule (iw := 1) (ip := ip) (jc := jc) I2 L hcell hcN hcv hn hf hfn hfr (fun u => hbind _ _ _ _ _ u) hr' hNw hva hNp hvp hda hca hdp hcp hd1 hc1 hd2) hco (hsp H2 eN T2)
    exact ⟨t, ht.nox, hq⟩
  refine wpAny_call (codeAny_mono rc fun r s3 hq => ?_)
  cases r with
  | error e => exact (show False from hq).elim
  | ok fl =>
    cases fl with
    | ret u => exact I2.after hq
    | next => exact False.elim hq
    | brk => exact False.elim hq
    | cont => exact False.elim hq
end
end WK

/-! The text by places, calls in short, how amounts, arcs, formulas and sheets lie in the heap -/
namespace WK
open PySem PySem.Spec PyProof.Rows L2 LamX CS

def top (i : Nat) : Stmt := PySem.Challenge.pw_circlesettle_k32_whole_no_solution_is_le.main.body.getD i (.Pass ⟨0, 0, 0, 0⟩)

/-- the built-in names are what they are -/
structure Blt (mg : Str → Option Value) : Prop where
  len : mg "len" = none
  range : mg "range" = none
  max : mg "max" = none
  min : mg "min" = none
  int : mg "int" = none
  list : mg "list" = none
  enumerate : mg "enumerate" = none
  all : mg "all" = none
  isinstance : mg "isinstance" = none
  bool : mg "bool" = none

/-- the name x holds a def that keeps the promise -/
def Has (P : Program) (w : World) (K : PySem.W.Frag) (mg : Str → Option Value) (base : Heap) (k : Nat) (x : Str) (ps : List Str) (sp : Sp) : Prop :=
  ∃ (f : Addr) (fd : FuncData), mg x = some (.ref f) ∧ PySem.W.keepIn K (.ref f) = true ∧ Binds K fd ps [] ∧ FnOk P w K mg base CX0 k f fd ps sp

theorem pe_callH {X : Cx} {k : Nat} {ps : List Str} {sp : Sp} {x : Str} {p pos : Pos} {e : Expr} {es : List Expr} {t : TA} (h : Has X.prog X.w X.K X.mg X.base k x ps sp) (hr : Room k X.A) (hg : Gl X x) (ha : PA X (e :: es) t)
    (hdb : (x == ("__debug__" : Str)) = false := by decide) (he : starEach (e :: es) X.env = (false, eval e X.env) :: starEach es X.env := by rfl) (hpl : (backTo pos (starEach es X.env)).any (·.1) = false := by rfl) :
    PE X (.Call (.Name x p) (e :: es) [] pos) (tCall sp [] E0 t) := by
  obtain ⟨f, fd, h1, h2, h3, h4⟩ := h
  exact pe_call h4 hr hg h1 h2 h3 .nil pass0 ha hdb he hpl

/-! ### heaps that grow -/
theorem SqL_ext {K : PySem.W.Frag} {H H' : Hp} {a : Addr} {xs : List V} (e : ExtN H H') (h : SqL K H a xs) : SqL K H' a xs := by
  rcases h with (h | ⟨o, h⟩) | h
  · exact .inl (.inl (e _ _ h fun ps z => nomatch z))
  · exact .inl (.inr ⟨o, e _ _ h fun ps z => nomatch z⟩)
  · exact .inr h
theorem SqT_ext {K : PySem.W.Frag} {H H' : Hp} {a : Addr} {xs : List V} (e : ExtN H H') (h : SqT K H a xs) : SqT K H' a xs := by
  rcases h with (h | ⟨o, h⟩) | h
  · exact .inl (.inl (e _ _ h fun ps z => nomatch z))
  · exact .inl (.inr ⟨o, e _ _ h fun ps z => nomatch z⟩)
  · exact .inr h
theorem lst_ext {H H' : Hp} {a : Addr} {xs : List V} (e : ExtN H H') (h : H a = some (.lst xs)) : H' a = some (.lst xs) := e _ _ h fun ps z => nomatch z
theorem exN {H H' : Hp} (s : Same H H') : ExtN H H' := ExtN.of s
/-- a new object -/
theorem same_new {H : Hp} {p : Addr} {o : HO} (h : H p = none) : Same H (upd H p o) := fun b u e => by
  rw [upd_ne (ne_of_none e h)]; exact e
/-- what was new is written -/
theorem same_upd {H0 H : Hp} {p : Addr} {o : HO} (s : Same H0 H) (h : H0 p = none) : Same H0 (upd H p o) := fun b u e => by
  rw [upd_ne (ne_of_none e h)]; exact s _ _ e
/-- a thing that is free in the later heap was free before -/
theorem free_of {H0 H : Hp} {p : Addr} (s : Same H0 H) (h : H p = none) : H0 p = none := s.free h

/-! ### values -/
def vA : Am → V
  | none => .non
  | some n => .int (n : Int)
def vN (n : Nat) : V := .int (n : Int)
theorem vA_inj {a b : Am} (h : vA a = vA b) : a = b := by
  cases a with
  | none =>
    cases b with
    | none => rfl
    | some b => exact nomatch h
  | some a =>
    cases b with
    | none => exact nomatch h
    | some b =>
      have h : V.int (a : Int) = V.int (b : Int) := h
      have := V.int.inj h
      congr 1
      omega
/-- a list of objects that stand so -/
def LsAt {α : Type} (K : PySem.W.Frag) (R : Hp → Addr → α → Prop) (H : Hp) (p : Addr) (l : List α) : Prop := ∃ ps : List Addr, SqL K H p (ps.map V.ref) ∧ Paired (R H) ps l
def ArcAt (K : PySem.W.Frag) (H : Hp) (p : Addr) (a : Arc) : Prop := SqT K H p [vN a.1, .int a.2]
abbrev ArcsAt (K : PySem.W.Frag) : Hp → Addr → List Arc → Prop := LsAt K (ArcAt K)
def FmAt (K : PySem.W.Frag) (H : Hp) (p : Addr) : Fm → Prop
  | .amt a => SqT K H p [.str "amount", vA a]
  | .lst l => ∃ q, SqT K H p [.str "least", .ref q] ∧ ArcsAt K H q l
  | .gst l => ∃ q, SqT K H p [.str "greatest", .ref q] ∧ ArcsAt K H q l
  | .cnd j a k => SqT K H p [.str "when", vN j, vN a, vN k]
abbrev ShAt (K : PySem.W.Frag) : Hp → Addr → List Fm → Prop := LsAt K (FmAt K)
section
variable {K : PySem.W.Frag} {H H' : Hp} {p : Addr}
theorem LsAt.ext {α : Type} {R : Hp → Addr → α → Prop} {l : List α} (e : ExtN H H') (hR : ∀ q a, R H q a → R H' q a) (h : LsAt K R H p l) : LsAt K R H' p l := by
  obtain ⟨ps, h1, h2⟩ := h
  exact ⟨ps, SqL_ext e h1, Paired.mapP h2 hR⟩
theorem ArcAt.ext {a : Arc} (e : ExtN H H') (h : ArcAt K H p a) : ArcAt K H' p a := SqT_ext e h
theorem ArcsAt.ext {l : List Arc} (e : ExtN H H') (h : ArcsAt K H p l) : ArcsAt K H' p l := LsAt.ext e (fun _ _ => ArcAt.ext e) h
theorem FmAt.ext {f : Fm} (e : ExtN H H') (h : FmAt K H p f) : FmAt K H' p f := by
  cases f with
  | amt a => exact SqT_ext e h
  | lst l => obtain ⟨q, h1, h2⟩ := h; exact ⟨q, SqT_ext e h1, ArcsAt.ext e h2⟩
  | gst l => obtain ⟨q, h1, h2⟩ := h; exact ⟨q, SqT_ext e h1, ArcsAt.ext e h2⟩
  | cnd j a k => exact SqT_ext e h
theorem ShAt.ext {l : List Fm} (e : ExtN H H') (h : ShAt K H p l) : ShAt K H' p l := LsAt.ext e (fun _ _ => FmAt.ext e) h
theorem paired_at {α β : Type} {F : α → β → Prop} : ∀ {l₁ : List α} {l₂ : List β}, Paired F l₁ l₂ → ∀ {i : Nat} {b : β}, l₂[i]? = some b → ∃ a, l₁[i]? = some a ∧ F a b
  | _, _, .nil, i, b, h => by simp at h
  | _, _, .cons (a := a) r t, 0, b, h => by
    have e := Option.some.inj (show some _ = some b from h)
    subst e
    exact ⟨a, rfl, r⟩
  | _, _, .cons r t, i + 1, b, h => paired_at t (i := i) h
theorem paired_at1 {α β : Type} {F : α → β → Prop} {l₁ : List α} {l₂ : List β} (r : Paired F l₁ l₂) {i : Nat} {a : α} (h : l₁[i]? = some a) : ∃ b, l₂[i]? = some b ∧ F a b := paired_get r h
/-- an item of such a list, by its place -/
theorem LsAt.at_ {α : Type} {R : Hp → Addr → α → Prop} {l : List α} (h : LsAt K R H p l) {i : Nat} {a : α} (hi : l[i]? = some a) : ∃ (xs : List V) (q : Addr), SqL K H p xs ∧ atI xs (i : Int) = some (.ref q) ∧ R H q a := by
  obtain ⟨ps, h1, h2⟩ := h
  obtain ⟨q, e, r⟩ := paired_at h2 hi
  refine ⟨_, q, h1, atI_nat ?_, r⟩
  rw [List.getElem?_map, e]; rfl
theorem LsAt.len {α : Type} {R : Hp → Addr → α → Prop} {l : List α} (h : LsAt K R H p l) : ∃ xs : List V, SqL K H p xs ∧ xs.length = l.length := by
  obtain ⟨ps, h1, h2⟩ := h
  exact ⟨_, h1, by rw [List.length_map, h2.length]⟩
end
theorem get_some {α : Type} {l : List α} {i : Nat} (h : i < l.length) : l[i]? = some l[i] := List.getElem?_eq_getElem h
/-- an item of a list of amounts -/
theorem at_vA {xs : List Am} {i : Nat} (h : i < xs.length) : atI (xs.map vA) (i : Int) = some (vA (xs.getD i none)) := by
  refine atI_nat ?_
  rw [List.getElem?_map, get_some h, getD_el _ _ _ h]; rfl
theorem ixN_nat {n i : Nat} (h : i < n) : ixN n (i : Int) = some i := by
  unfold ixN
  rw [if_pos (Int.natCast_nonneg i), if_pos (by omega)]
  rfl
theorem take_more {α : Type} {l : List α} {i : Nat} {x : α} (h : l[i]? = some x) : l.take (i + 1) = l.take i ++ [x] := by
  obtain ⟨hi, e⟩ := List.getElem?_eq_some_iff.mp h
  rw [List.take_succ_eq_append_getElem hi, e]

/-! ### lists of amounts compared -/
def dA : Am → PyData
  | none => .none
  | some n => .int (n : Int)
theorem dp_vA {K : PySem.W.Frag} {H : Hp} : ∀ a : Am, Dp K H (vA a) (dA a)
  | none => .non
  | some n => .int n
theorem dpAll_vA {K : PySem.W.Frag} {H : Hp} : ∀ l : List Am, DpAll K H (l.map vA) (l.map dA)
  | [] => .nil
  | a :: l => .cons (dp_vA a) (dpAll_vA l)
theorem dp_list {K : PySem.W.Frag} {H : Hp} {p : Addr} {l : List Am} (h : SqL K H p (l.map vA)) : Dp K H (.ref p) (.list (l.map dA)) := .lst h (dpAll_vA l)
theorem canLay_dA : ∀ l : List Am, PyData.canLayAll0 (l.map dA) = true
  | [] => by simp [PyData.canLayAll0]
  | none :: l => by simp [PyData.canLayAll0, dA, PyData.canLay0, canLay_dA l]
  | some n :: l => by simp [PyData.canLayAll0, dA, PyData.canLay0, canLay_dA l]
theorem depth_dA : ∀ l : List Am, PyData.depthAll (l.map dA) ≤ 1
  | [] => by simp [PyData.depthAll]
  | none :: l => by have := depth_dA l; simp [PyData.depthAll, dA, PyData.depth]; omega
  | some n :: l => by have := depth_dA l; simp [PyData.depthAll, dA, PyData.depth]; omega
theorem shaped_dA (l : List Am) : SeqAt.shaped (.list (l.map dA)) = true := by
  unfold SeqAt.shaped
  have := depth_dA l
  simp [PyData.canLay0, canLay_dA l, PyData.depth]
  omega
theorem eqv_dA : ∀ a b : Am, PyData.eqv (dA a) (dA b) = decide (a = b)
  | none, none => by simp [dA, PyData.eqv]
  | none, some b => by simp [dA, PyData.eqv]
  | some a, none => by simp [dA, PyData.eqv]
  | some a, some b => by
    simp only [dA, PyData.eqv, Option.some.injEq]
    by_cases e : a = b
    · subst e; simp
    · rw [decide_eq_false e]
      exact beq_eq_false_iff_ne.mpr (by omega)
theorem eqvAll_dA : ∀ l m : List Am, PyData.eqvAll (l.map dA) (m.map dA) = decide (l = m)
  | [], [] => by simp [PyData.eqvAll]
  | [], b :: m => by simp [PyData.eqvAll]
  | a :: l, [] => by simp [PyData.eqvAll]
  | a :: l, b :: m => by
    simp only [List.map_cons, PyData.eqvAll, eqv_dA, eqvAll_dA l m, List.cons.injEq]
    by_cases e1 : a = b <;> by_cases e2 : l = m <;> simp [e1, e2]
theorem eqv_lists (l m : List Am) : PyData.eqv (.list (l.map dA)) (.list (m.map dA)) = decide (l = m) := by
  simp only [PyData.eqv]
  exact eqvAll_dA l m

/-! ### a number in a list of numbers -/
theorem inV_nat (n : Nat) : ∀ l : List Nat, inV (vN n) (l.map vN) = decide (n ∈ l)
  | [] => by simp [inV]
  | a :: l => by
    have ih := inV_nat n l
    have e1 : inV (vN n) ((a :: l).map vN) = (eqV (vN a) (vN n) || inV (vN n) (l.map vN)) := rfl
    have e2 : eqV (vN a) (vN n) = decide (n = a) := by
      show eqV (.int (a : Int)) (.int (n : Int)) = decide (n = a)
      unfold eqV
      by_cases e : n = a
      · subst e; simp
      · rw [decide_eq_false e]
        simp
        omega
    rw [e1, e2, ih]
    by_cases c1 : n = a <;> by_cases c2 : n ∈ l <;> simp [c1, c2]
theorem flat_nat : ∀ l : List Nat, (l.map vN).all flatV = true
  | [] => rfl
  | a :: l => by
    show (flatV (vN a) && (l.map vN).all flatV) = true
    rw [flat_nat l]; rfl

/-! ### for i, x in enumerate(xs), the list left as it is -/
theorem for_enum {K : PySem.W.Frag} {a : Addr} {xs : List V} {g : TG} {tb : TS} {D : Ends} {σ : L2.St} {H : Hp} (Pv : Nat → L2.St → Hp → Prop) (h0 : Pv 0 σ H) (hl : ∀ i σ H, i ≤ xs.length → Pv i σ H → SqL K H a xs)
    (hs : ∀ i x T σ H, xs[i]? = some x → Pv i σ H → H T = none → g (.ref T) σ (upd H T (.tup [vN i, x])) fun σ2 H2 => tb { D with nx := Pv (i + 1), ct := Pv (i + 1), bk := D.nx } σ2 H2) (hd : ∀ σ H, Pv xs.length σ H → D.nx σ H) :
    ∃ W : Nat → Nat → L2.St → Hp → Prop, (∃ m, W 0 m σ H) ∧ ∀ i m σ H, W i m σ H →
      ((Ite K a).stop i H ∧ D.nx σ H) ∨ ((Ite K a).go i H ∧ ∃ N : L2.St → Hp → Prop, (∀ σ' H', N σ' H' → ∃ m', m' < m ∧ W (i + 1) m' σ' H') ∧ ∀ x H', (Ite K a).yld i H x H' → g x σ H' fun σ2 H2 => tb { D with nx := N, ct := N, bk := D.nx } σ2 H2) := by
  refine ⟨fun i m σ H => i + m = xs.length ∧ Pv i σ H, ⟨xs.length, by omega, h0⟩, fun i m σ H hw => ?_⟩
  have hsum := hw.1
  have hq := hl i σ H (by omega) hw.2
  cases m with
  | zero =>
    have e : i = xs.length := by omega
    exact .inl ⟨⟨xs, hq, by omega⟩, hd σ H (e ▸ hw.2)⟩
  | succ m =>
    have hi : i < xs.length := by omega
    refine .inr ⟨⟨xs, xs[i], hq, get_some hi⟩, Pv (i + 1), fun σ' H' hp => ⟨m, by omega, by omega, hp⟩, ?_⟩
    rintro x H' ⟨T, y, e1, e2, e3, e4⟩
    subst e1 e3
    exact hs i y T σ H (e4 xs hq) hw.2 e2
end WK
namespace WK
open PySem PySem.Spec PyProof.Rows L2 LamX CS
theorem iteDT {c : Prop} [Decidable c] {A B : Prop} (hc : c) (h : A) : if decide c = true then A else B := by
  rw [if_pos (decide_eq_true hc)]; exact h
theorem iteDF {c : Prop} [Decidable c] {A B : Prop} (hc : ¬ c) (h : B) : if decide c = true then A else B := by
  rw [if_neg (by rw [decide_eq_false hc]; exact Bool.false_ne_true)]; exact h
theorem iteND {c : Prop} [Decidable c] {A B : Prop} (hc : ¬ c) (h : A) : if (!decide c) = true then A else B := by
  rw [decide_eq_false hc]; exact iteT h
theorem iteNT {c : Prop} [Decidable c] {A B : Prop} (hc : c) (h : B) : if (!decide c) = true then A else B := by
  rw [decide_eq_true hc]; exact iteF h
theorem n_aw : ¬ V.str "amount" = V.str "when" := by decide +kernel
theorem n_al : ¬ V.str "amount" = V.str "least" := by decide +kernel
theorem n_ag : ¬ V.str "amount" = V.str "greatest" := by decide +kernel
theorem n_wa : ¬ V.str "when" = V.str "amount" := by decide +kernel
theorem n_wl : ¬ V.str "when" = V.str "least" := by decide +kernel
theorem n_wg : ¬ V.str "when" = V.str "greatest" := by decide +kernel
theorem n_la : ¬ V.str "least" = V.str "amount" := by decide +kernel
theorem n_lw : ¬ V.str "least" = V.str "when" := by decide +kernel
theorem n_lg : ¬ V.str "least" = V.str "greatest" := by decide +kernel
theorem n_ga : ¬ V.str "greatest" = V.str "amount" := by decide +kernel
theorem n_gw : ¬ V.str "greatest" = V.str "when" := by decide +kernel
theorem n_gl : ¬ V.str "greatest" = V.str "least" := by decide +kernel
theorem line_of {n m : Nat} (h : n ≤ m) (hm : m ≤ 1000) : n < sizeLine := small1000 (Nat.le_trans h hm)
end WK
namespace WK
open PySem PySem.Spec PyProof.Rows L2 LamX CS
theorem int0 (i : Nat) : V.int (0 + (i : Int)) = vN i := by
  show V.int (0 + (i : Int)) = V.int (i : Int)
  rw [Int.zero_add]
theorem lc_range0 {n : Nat} {g : TG} {tt : TT} {te : TE} {vs : List Nat} {σ : L2.St} {H1 : Hp} {D : Addr} {Qd : Hp → Prop} (Pv : Nat → Hp → Prop) (h0 : Pv 0 (upd H1 D (.lst [])))
    (hs : ∀ i H, i < n → Pv i H → g (vN i) (wipe σ vs) H fun σ2 H2 => wipe σ2 vs = wipe σ vs ∧ tt σ2 H2 fun b H3 =>
      if b = true then te σ2 H3 fun y H4 => ∃ acc, H4 D = some (.lst acc) ∧ acc.length < sizeLine ∧ Pv (i + 1) (upd H4 D (.lst (acc ++ [y]))) else Pv (i + 1) H3) (hd : ∀ H, Pv n H → Qd H) :
    ∃ W : Nat → Nat → Hp → Prop, (∃ m, W 0 m (upd H1 D (.lst []))) ∧ ∀ i m H, W i m H →
      ((Itr 0 n).stop i H ∧ Qd H) ∨ ((Itr 0 n).go i H ∧ ∃ Nx : Hp → Prop, (∀ H', Nx H' → ∃ m', m' < m ∧ W (i + 1) m' H') ∧ ∀ x H', (Itr 0 n).yld i H x H' → g x (wipe σ vs) H' fun σ2 H2 => wipe σ2 vs = wipe σ vs ∧ tt σ2 H2 fun b H3 =>
        if b = true then te σ2 H3 fun y H4 => ∃ acc, H4 D = some (.lst acc) ∧ acc.length < sizeLine ∧ Nx (upd H4 D (.lst (acc ++ [y]))) else Nx H3) :=
  lc_range (lo := 0) Pv h0 (fun i H hi hp => by rw [int0]; exact hs i H hi hp) hd
theorem for_range0 {n : Nat} {g : TG} {tb : TS} {D : Ends} {σ : L2.St} {H : Hp} (Pv : Nat → L2.St → Hp → Prop) (h0 : Pv 0 σ H)
    (hs : ∀ i σ H, i < n → Pv i σ H → g (vN i) σ H fun σ2 H2 => tb { D with nx := Pv (i + 1), ct := Pv (i + 1), bk := D.nx } σ2 H2) (hd : ∀ σ H, Pv n σ H → D.nx σ H) :
    ∃ W : Nat → Nat → L2.St → Hp → Prop, (∃ m, W 0 m σ H) ∧ ∀ i m σ H, W i m σ H →
      ((Itr 0 n).stop i H ∧ D.nx σ H) ∨ ((Itr 0 n).go i H ∧ ∃ N : L2.St → Hp → Prop, (∀ σ' H', N σ' H' → ∃ m', m' < m ∧ W (i + 1) m' σ' H') ∧ ∀ x H', (Itr 0 n).yld i H x H' → g x σ H' fun σ2 H2 => tb { D with nx := N, ct := N, bk := D.nx } σ2 H2) :=
  for_range (lo := 0) Pv h0 (fun i σ H hi hp => by rw [int0]; exact hs i σ H hi hp) hd
/-- a sheet as a function -/
abbrev fF (F : List Fm) : Nat → Fm := fun u => F.getD u (.amt none)
theorem fF_at {F : List Fm} {i : Nat} (h : i < F.length) : F[i]? = some (fF F i) := by
  show F[i]? = some (F.getD i (.amt none))
  rw [getD_el _ _ _ h, get_some h]
/-- one more of a mapped range -/
theorem range_more {α : Type} (f : Nat → α) (i : Nat) : (List.range (i + 1)).map f = (List.range i).map f ++ [f i] := by
  rw [List.range_succ, List.map_append]; rfl
theorem filter_more (p : Nat → Bool) (i : Nat) : (List.range (i + 1)).filter p = if p i = true then (List.range i).filter p ++ [i] else (List.range i).filter p := by
  rw [List.range_succ, List.filter_append]
  split
  · rename_i h; rw [List.filter_cons_of_pos h]; rfl
  · rename_i h; rw [List.filter_cons_of_neg h]; simp
theorem filter_len (p : Nat → Bool) (i : Nat) : ((List.range i).filter p).length ≤ i := by
  have := List.length_filter_le p (List.range i)
  rw [List.length_range] at this
  exact this
/-- SqT is kept where nothing is lost -/
theorem sqT_same {K : PySem.W.Frag} {H H' : Hp} {a : Addr} {xs : List V} (s : Same H H') (h : SqT K H a xs) : SqT K H' a xs := SqT_ext (exN s) h
theorem same_new2 {H0 H : Hp} {p : Addr} {o : HO} (s : Same H0 H) (h : H p = none) : Same H0 (upd H p o) := s.trans (same_new h)
end WK
namespace WK
open PySem PySem.Spec PyProof.Rows L2 LamX CS
/-- the heap without the object at D (a list that is being filled) -/
def del (H : Hp) (D : Addr) : Hp := fun b => if b = D then none else H b
theorem del_ne {H : Hp} {D b : Addr} (h : b ≠ D) : del H D b = H b := if_neg h
theorem del_upd {H : Hp} {D : Addr} {o : HO} : del (upd H D o) D = del H D := by
  funext b
  unfold del
  by_cases e : b = D
  · rw [if_pos e, if_pos e]
  · rw [if_neg e, if_neg e, upd_ne e]
theorem del_same {H : Hp} {D : Addr} : Same (del H D) H := fun b o e => by
  unfold del at e
  split at e
  · cases e
  · exact e
theorem del_mono {H H' : Hp} {D : Addr} (s : Same H H') : Same (del H D) (del H' D) := fun b o e => by
  unfold del at e ⊢
  split at e
  · cases e
  · rename_i h; rw [if_neg h]; exact s _ _ e
theorem same_del {H H' : Hp} {D : Addr} (h : H D = none) (s : Same H H') : Same H (del H' D) := fun b o e => by
  rw [del_ne (ne_of_none e h)]; exact s _ _ e
theorem sqT_del {K : PySem.W.Frag} {H : Hp} {D a : Addr} {xs ys : List V} (hD : H D = some (.lst ys)) (h : SqT K H a xs) : SqT K (del H D) a xs := by
  rcases h with (h | ⟨o, h⟩) | h
  · refine .inl (.inl ?_)
    rw [del_ne (ne_of h hD fun z => nomatch z)]; exact h
  · refine .inl (.inr ⟨o, ?_⟩)
    rw [del_ne (ne_of h hD fun z => nomatch z)]; exact h
  · exact .inr h
theorem arcs_del {K : PySem.W.Frag} {H : Hp} {D q : Addr} {l : List Arc} {ys : List V} (hD : H D = some (.lst ys)) (hq : q ≠ D) (h : ArcsAt K H q l) : ArcsAt K (del H D) q l := by
  obtain ⟨ps, h1, h2⟩ := h
  refine ⟨ps, ?_, Paired.mapP h2 fun _ _ z => sqT_del hD z⟩
  rcases h1 with (h | ⟨o, h⟩) | h
  · refine .inl (.inl ?_)
    rw [del_ne hq]; exact h
  · refine .inl (.inr ⟨o, ?_⟩)
    rw [del_ne hq]; exact h
  · exact .inr h
end WK
namespace WK
open PySem PySem.Spec PyProof.Rows L2 LamX CS
/-- a tuple stands where a list is written -/
theorem sqT_updL {K : PySem.W.Frag} {H : Hp} {D a : Addr} {xs ys : List V} {o : HO} (hD : H D = some (.lst ys)) (h : SqT K H a xs) : SqT K (upd H D o) a xs := by
  rcases h with (h | ⟨u, h⟩) | h
  · exact .inl (.inl (by rw [upd_ne (ne_of h hD fun z => nomatch z)]; exact h))
  · exact .inl (.inr ⟨u, by rw [upd_ne (ne_of h hD fun z => nomatch z)]; exact h⟩)
  · exact .inr h
theorem at_int {xs : List Int} {i : Nat} (h : i < xs.length) : atI (xs.map V.int) (i : Int) = some (.int (xs.getD i 0)) := by
  refine atI_nat ?_
  rw [List.getElem?_map, get_some h, getD_el _ _ _ h]; rfl
/-- None, or a pair -/
def StAt (K : PySem.W.Frag) (H : Hp) (v : V) : Option Arc → Prop
  | none => v = .non
  | some a => ∃ q, v = .ref q ∧ ArcAt K H q a
theorem StAt.imp {K : PySem.W.Frag} {H H' : Hp} (h : ∀ q xs, SqT K H q xs → SqT K H' q xs) : ∀ (v : V) (a : Option Arc), StAt K H v a → StAt K H' v a := fun v a k => by
  cases a with
  | none => exact k
  | some a => obtain ⟨q, e, r⟩ := k; exact ⟨q, e, h _ _ r⟩
theorem paired_set {α β : Type} {F : α → β → Prop} {a : α} {b : β} (h : F a b) : ∀ {l₁ : List α} {l₂ : List β} (i : Nat), Paired F l₁ l₂ → Paired F (l₁.set i a) (l₂.set i b)
  | _, _, _, .nil => .nil
  | _, _, 0, .cons _ t => .cons h t
  | _, _, i + 1, .cons r t => .cons r (paired_set h i t)
theorem paired_rep {α β : Type} {F : α → β → Prop} {a : α} {b : β} (h : F a b) : ∀ n : Nat, Paired F (List.replicate n a) (List.replicate n b)
  | 0 => .nil
  | n + 1 => .cons h (paired_rep h n)
theorem rep_more {α : Type} (n : Nat) (a : α) : List.replicate (n + 1) a = List.replicate n a ++ [a] := by
  rw [List.replicate_succ']
end WK
namespace WK
open PySem PySem.Spec PyProof.Rows L2 LamX CS
theorem ext_new {H0 H : Hp} {p : Addr} {o : HO} (s : ExtN H0 H) (h : H p = none) : ExtN H0 (upd H p o) := s.trans (exN (same_new h))
theorem ext_upd {H0 H : Hp} {p : Addr} {o : HO} (s : ExtN H0 H) (h : H0 p = none) : ExtN H0 (upd H p o) := fun b u e n => by
  rw [upd_ne (ne_of_none e h)]; exact s _ _ e n
theorem ext_same {H0 H1 H2 : Hp} (s : ExtN H0 H1) (k : Same H1 H2) : ExtN H0 H2 := s.trans (exN k)
theorem tabs_same {T : List (Addr × Str)} {H H' : Hp} (t : Tabs T H) (s : Same H H') : Tabs T H' := t.ext s
theorem tabs_updL {T : List (Addr × Str)} {H : Hp} {D : Addr} {xs ys : List V} (hD : H D = some (.lst xs)) (t : Tabs T H) : Tabs T (upd H D (.lst ys)) := fun p hp => by
  obtain ⟨ps, h1, h2, h3⟩ := t p hp
  refine ⟨ps, by rw [upd_ne (ne_of h1 hD fun z => nomatch z)]; exact h1, h2, fun pos cv hc => ?_⟩
  obtain ⟨c, e1, e2⟩ := h3 pos cv hc
  refine ⟨c, e1, ?_⟩
  rw [upd_ne (ne_of e2 hD fun z => by unfold CodeO at z; cases z)]; exact e2
/-- a def by its body, its code object told -/
theorem fun_okC {P : Program} {w : World} {K : PySem.W.Frag} {mg : Str → Option Value} {base : Heap} {x qual : Str} {st : Stmt} {f c : Addr} {fd : FuncData} {N ps : List Str} {k : Nat} {sp : Sp} (F : Fun K x qual st f fd) (hc : fd.code = .ref c) (S : FnScope N ps (defScope st))
    (len : ∀ vs H Q E, sp vs H Q E → vs.length = ps.length)
    (hbody : ∀ (A : Around) (outer : List Env) (s : Shared) (H : Hp) (vs : List V) (Q : VK) (E : XK), Room k (A.deeper (envOfC qual (defScope st) s.heap.objs.size f (.ref c))) → sp vs H Q E →
      ∃ t, PSs (cxOf CX0 P w K mg base N qual (defScope st) f (.ref c) A outer s H E).nox (defBody st) t ∧ t { nx := fun _ H' => Q .non H', rt := Q } (start N vs) H) : FnOk P w K mg base CX0 (k + 1) f fd ps sp := by
  obtain ⟨oc, od, kV, doc, pm, an, cdv, ct, osl, efd, lk, hcd⟩ := F.ex
  have e : cdv = .ref c := by rw [efd] at hc; exact hc
  subst efd
  subst e
  refine fn_of lk hcd S len fun A outer s H vs Q E hr hsp => ?_
  obtain ⟨t, h, q⟩ := hbody A outer s H vs Q E hr hsp
  exact ⟨t, h.nox, q⟩
end WK
namespace WK
open PySem PySem.Spec PyProof.Rows L2 LamX CS
theorem sqL_ne {K : PySem.W.Frag} {H : Hp} {D a : Addr} {xs : List V} {o : HO} (n : a ≠ D) (h : SqL K H a xs) : SqL K (upd H D o) a xs := by
  rcases h with (h | ⟨u, h⟩) | h
  · exact .inl (.inl (by rw [upd_ne n]; exact h))
  · exact .inl (.inr ⟨u, by rw [upd_ne n]; exact h⟩)
  · exact .inr h
end WK

/-! amounts.py -/
namespace WK
open PySem PySem.Spec PyProof.Rows L2 LamX CS
section
variable {P : Program} {w : World} {K : PySem.W.Frag} {mg : Str → Option Value} {base : Heap} {f : Addr} {fd : FuncData}

-- at_most: slots 0 a, 1 b
abbrev s_at_most : Stmt := top 1
abbrev n_at_most : List Str := ["a", "b"]
theorem sc_at_most : FnScope n_at_most ["a", "b"] (defScope s_at_most) := ⟨rfl, rfl, rfl, by decide +kernel, rfl, by decide +kernel, by decide +kernel⟩
def spAtMost : Sp := fun vs H Q _ => ∃ a b : Am, vs = [vA a, vA b] ∧ Q (.bl (decide (le a b))) H
theorem ok_at_most (F : Fun K "at_most" "at_most" s_at_most f fd) : FnOk P w K mg base CX0 1 f fd ["a", "b"] spAtMost := by
  refine F.ok sc_at_most (fun vs H Q E h => ?_) (fun cdv A outer s H vs Q E hr h => ?_)
  · obtain ⟨a, b, rfl, _⟩ := h
    rfl
  · obtain ⟨a, b, rfl, k⟩ := h
    refine ⟨_, (pss_cons (ps_if (pt_cmp (pc_isN (pv 1)) rfl)
      (pss_one (ps_ret pe_bl))
      pss_nil)
      (pss_one (ps_ret (pe_and (pe_cmp (pc_notN (pv 0)) rfl) (pe_one (pe_cmpR op_le (pv 0) (pv 1) (nomark _))))))), ?_⟩
    refine ⟨_, rfl, _, rfl, ?_⟩
    cases b with
    | none => exact iteT (by have e : le a none := le_none a; rw [decide_eq_true e] at k; exact k)
    | some b =>
      refine iteF ?_
      cases a with
      | none =>
        refine ⟨_, rfl, _, rfl, iteF ?_⟩
        exact k
      | some a =>
        refine ⟨_, rfl, _, rfl, iteT ?_⟩
        refine ⟨_, rfl, _, rfl, _, _, rfl, rfl, ?_⟩
        have e : decide ((a : Int) ≤ (b : Int)) = decide (le (some a) (some b)) := by
          by_cases c : a ≤ b
          · rw [decide_eq_true (show (a : Int) ≤ b by omega), decide_eq_true (show le (some a) (some b) from c)]
          · rw [decide_eq_false (show ¬ (a : Int) ≤ b by omega), decide_eq_false (show ¬ le (some a) (some b) from c)]
        show Q (.bl (decide ((a : Int) ≤ (b : Int)))) H
        rw [e]; exact k

-- least_of: slots 0 amounts, 1 found, 2 one
abbrev s_least_of : Stmt := top 2
abbrev n_least_of : List Str := ["amounts", "found", "one"]
theorem sc_least_of : FnScope n_least_of ["amounts"] (defScope s_least_of) := ⟨rfl, rfl, rfl, by decide +kernel, rfl, by decide +kernel, by decide +kernel⟩
def spLeastOf (K : PySem.W.Frag) : Sp := fun vs H Q _ => ∃ (p : Addr) (l : List Am), vs = [.ref p] ∧ SqL K H p (l.map vA) ∧ l ≠ [] ∧ Q (vA (least1 l)) H
theorem ok_least_of (F : Fun K "least_of" "least_of" s_least_of f fd) (h_at_most : Has P w K mg base 1 "at_most" ["a", "b"] spAtMost) : FnOk P w K mg base CX0 2 f fd ["amounts"] (spLeastOf K) := by
  refine F.ok sc_least_of (fun vs H Q E h => ?_) (fun cdv A outer s H vs Q E hr h => ?_)
  · obtain ⟨p, l, rfl, _⟩ := h
    rfl
  · obtain ⟨p, l, rfl, hl, hne, k⟩ := h
    refine ⟨_, (pss_cons (ps_set (i := 1) sc_least_of.nd rfl (Or.inl rfl) (pe_ix (r := rIxL K) ix_list (pv 0) pe_int (fun _ _ => rfl)))
      (pss_cons (ps_for PassesOwn.never rfl (pi_list (pv 0)) (pg_name (i := 2) sc_least_of.nd rfl (Or.inl rfl))
      (pss_one (ps_if (pt_val (pe_callH h_at_most (hr.mono (by decide)) rfl (pa_cons (pv 2) (pa_cons (pv 1) pa_nil))))
        (pss_one (ps_set (i := 1) sc_least_of.nd rfl (Or.inl rfl) (pv 2)))
        pss_nil)))
      (pss_one (ps_ret (pv 1))))), ?_⟩
    have h0 : 0 < l.length := List.length_pos_iff.mpr hne
    refine ⟨_, rfl, p, _, 0, _, rfl, rfl, hl, at_vA h0, ?_⟩
    refine ⟨_, rfl, p, rfl, ⟨_, hl⟩, for_list (K := K) (a := p) (xs := l.map vA) (fun i σ H' => H' = H ∧ ∃ v, σ = [some (.ref p), some (vA (leastOf (l.getD 0 none) (l.take i))), v])
      ⟨rfl, none, rfl⟩ (fun i σ H' _ h => by rw [h.1]; exact hl) ?_ ?_⟩
    · rintro i x σ H' hi ⟨rfl, v, rfl⟩
      rw [List.getElem?_map] at hi
      cases e : l[i]? with
      | none => rw [e] at hi; cases hi
      | some o =>
        rw [e] at hi
        have hx : vA o = x := Option.some.inj hi
        subst hx
        refine ⟨_, rfl, _, rfl, o, _, rfl, _, rfl, ?_⟩
        have e2 : leastOf (l.getD 0 none) (l.take (i + 1)) = if le o (leastOf (l.getD 0 none) (l.take i)) then o else leastOf (l.getD 0 none) (l.take i) := by
          rw [take_more e]
          unfold leastOf
          rw [List.foldl_append]
          rfl
        refine ite2 (fun c => ?_) (fun c => ?_)
        · refine ⟨_, rfl, rfl, some (vA o), ?_⟩
          rw [e2, if_pos (of_decide_eq_true c)]
          rfl
        · refine ⟨rfl, some (vA o), ?_⟩
          rw [e2, if_neg (of_decide_eq_false (Bool.not_eq_true _ ▸ c))]
          rfl
    · rintro σ H' ⟨rfl, v, rfl⟩
      refine ⟨_, rfl, ?_⟩
      have e : leastOf (l.getD 0 none) (l.take (l.map vA).length) = least1 l := by
        rw [List.length_map, List.take_length]
        cases l with
        | nil => exact absurd rfl hne
        | cons a l => rfl
      rw [e]; exact k
-- greatest_of: slots 0 amounts, 1 found, 2 one
abbrev s_greatest_of : Stmt := top 3
abbrev n_greatest_of : List Str := ["amounts", "found", "one"]
theorem sc_greatest_of : FnScope n_greatest_of ["amounts"] (defScope s_greatest_of) := ⟨rfl, rfl, rfl, by decide +kernel, rfl, by decide +kernel, by decide +kernel⟩
def spGreatestOf (K : PySem.W.Frag) : Sp := fun vs H Q _ => ∃ (p : Addr) (l : List Am), vs = [.ref p] ∧ SqL K H p (l.map vA) ∧ l ≠ [] ∧ Q (vA (greatest1 l)) H
theorem ok_greatest_of (F : Fun K "greatest_of" "greatest_of" s_greatest_of f fd) (h_at_most : Has P w K mg base 1 "at_most" ["a", "b"] spAtMost) : FnOk P w K mg base CX0 2 f fd ["amounts"] (spGreatestOf K) := by
  refine F.ok sc_greatest_of (fun vs H Q E h => ?_) (fun cdv A outer s H vs Q E hr h => ?_)
  · obtain ⟨p, l, rfl, _⟩ := h
    rfl
  · obtain ⟨p, l, rfl, hl, hne, k⟩ := h
    refine ⟨_, (pss_cons (ps_set (i := 1) sc_greatest_of.nd rfl (Or.inl rfl) (pe_ix (r := rIxL K) ix_list (pv 0) pe_int (fun _ _ => rfl)))
      (pss_cons (ps_for PassesOwn.never rfl (pi_list (pv 0)) (pg_name (i := 2) sc_greatest_of.nd rfl (Or.inl rfl))
      (pss_one (ps_if (pt_val (pe_callH h_at_most (hr.mono (by decide)) rfl (pa_cons (pv 1) (pa_cons (pv 2) pa_nil))))
        (pss_one (ps_set (i := 1) sc_greatest_of.nd rfl (Or.inl rfl) (pv 2)))
        pss_nil)))
      (pss_one (ps_ret (pv 1))))), ?_⟩
    have h0 : 0 < l.length := List.length_pos_iff.mpr hne
    refine ⟨_, rfl, p, _, 0, _, rfl, rfl, hl, at_vA h0, ?_⟩
    refine ⟨_, rfl, p, rfl, ⟨_, hl⟩, for_list (K := K) (a := p) (xs := l.map vA) (fun i σ H' => H' = H ∧ ∃ v, σ = [some (.ref p), some (vA (greatestOf (l.getD 0 none) (l.take i))), v])
      ⟨rfl, none, rfl⟩ (fun i σ H' _ h => by rw [h.1]; exact hl) ?_ ?_⟩
    · rintro i x σ H' hi ⟨rfl, v, rfl⟩
      rw [List.getElem?_map] at hi
      cases e : l[i]? with
      | none => rw [e] at hi; cases hi
      | some o =>
        rw [e] at hi
        have hx : vA o = x := Option.some.inj hi
        subst hx
        refine ⟨_, rfl, _, rfl, _, o, rfl, _, rfl, ?_⟩
        have e2 : greatestOf (l.getD 0 none) (l.take (i + 1)) = if le (greatestOf (l.getD 0 none) (l.take i)) o then o else greatestOf (l.getD 0 none) (l.take i) := by
          rw [take_more e]
          unfold greatestOf
          rw [List.foldl_append]
          rfl
        refine ite2 (fun c => ?_) (fun c => ?_)
        · refine ⟨_, rfl, rfl, some (vA o), ?_⟩
          rw [e2, if_pos (of_decide_eq_true c)]
          rfl
        · refine ⟨rfl, some (vA o), ?_⟩
          rw [e2, if_neg (of_decide_eq_false (Bool.not_eq_true _ ▸ c))]
          rfl
    · rintro σ H' ⟨rfl, v, rfl⟩
      refine ⟨_, rfl, ?_⟩
      have e : greatestOf (l.getD 0 none) (l.take (l.map vA).length) = greatest1 l := by
        rw [List.length_map, List.take_length]
        cases l with
        | nil => exact absurd rfl hne
        | cons a l => rfl
      rw [e]; exact k

-- shifted: slots 0 a, 1 c
abbrev s_shifted : Stmt := top 4
abbrev n_shifted : List Str := ["a", "c"]
theorem sc_shifted : FnScope n_shifted ["a", "c"] (defScope s_shifted) := ⟨rfl, rfl, rfl, by decide +kernel, rfl, by decide +kernel, by decide +kernel⟩
def spShifted : Sp := fun vs H Q _ => ∃ (a : Am) (c : Int), vs = [vA a, .int c] ∧ Q (vA (sh a c)) H
theorem ok_shifted (F : Fun K "shifted" "shifted" s_shifted f fd) (B : Blt mg) : FnOk P w K mg base CX0 1 f fd ["a", "c"] spShifted := by
  refine F.ok sc_shifted (fun vs H Q E h => ?_) (fun cdv A outer s H vs Q E hr h => ?_)
  · obtain ⟨a, c, rfl, _⟩ := h
    rfl
  · obtain ⟨a, c, rfl, k⟩ := h
    refine ⟨_, (pss_cons (ps_if (pt_cmp (pc_isN (pv 0)) rfl)
      (pss_one (ps_ret pe_non))
      pss_nil)
      (pss_one (ps_ret (pe_callB (call_max2 rfl) (by rfl) B.max (by decide +kernel) (pa_cons pe_int (pa_cons (pe_op op_add (pv 0) (pv 1)) pa_nil)))))), ?_⟩
    refine ⟨_, rfl, _, rfl, ?_⟩
    cases a with
    | none => exact iteT k
    | some a =>
      refine iteF ⟨_, rfl, _, rfl, _, _, rfl, rfl, _, _, rfl, ?_⟩
      have e : (if (a : Int) + c > 0 then (a : Int) + c else 0) = ((((a : Int) + c).toNat : Nat) : Int) := by
        split <;> omega
      show Q (.int (if (a : Int) + c > 0 then (a : Int) + c else 0)) H
      rw [e]; exact k
end
end WK

/-! flat.py: flat_value -/
namespace WK
open PySem PySem.Spec PyProof.Rows L2 LamX CS
section
variable {P : Program} {w : World} {K : PySem.W.Frag} {mg : Str → Option Value} {base : Heap} {f : Addr} {fd : FuncData}

/-- short lists of arcs -/
def Short : Fm → Prop
  | .lst l => l.length ≤ 6
  | .gst l => l.length ≤ 6
  | _ => True
-- flat_value: slots 0 formula, 1 x, 2 kind, 3 amounts, 4 cell, 5 shift
abbrev s_flat_value : Stmt := top 6
abbrev n_flat_value : List Str := ["formula", "x", "kind", "amounts", "cell", "shift"]
theorem sc_flat_value : FnScope n_flat_value ["formula", "x"] (defScope s_flat_value) := ⟨rfl, rfl, rfl, by decide +kernel, rfl, by decide +kernel, by decide +kernel⟩
def spFlatValue (K : PySem.W.Frag) : Sp := fun vs H Q _ => ∃ (p x : Addr) (fm : Fm) (xs : List Am), vs = [.ref p, .ref x] ∧ FmAt K H p fm ∧ SqL K H x (xs.map vA) ∧ FmOk xs.length fm ∧ Short fm ∧ ∀ H', Same H H' → Q (vA (fv fm (xF xs))) H'
theorem ok_flat_value (F : Fun K "flat_value" "flat_value" s_flat_value f fd) (h_at_most : Has P w K mg base 1 "at_most" ["a", "b"] spAtMost) (h_shifted : Has P w K mg base 1 "shifted" ["a", "c"] spShifted)
    (h_least_of : Has P w K mg base 2 "least_of" ["amounts"] (spLeastOf K)) (h_greatest_of : Has P w K mg base 2 "greatest_of" ["amounts"] (spGreatestOf K)) : FnOk P w K mg base CX0 3 f fd ["formula", "x"] (spFlatValue K) := by
  refine F.ok sc_flat_value (fun vs H Q E h => ?_) (fun cdv A outer s H vs Q E hr h => ?_)
  · obtain ⟨p, x, fm, xs, rfl, _⟩ := h
    rfl
  · obtain ⟨p, x, fm, xs, rfl, hf, hx, ok, hsh, k⟩ := h
    refine ⟨_, (pss_cons (ps_set (i := 2) sc_flat_value.nd rfl (Or.inl rfl) (pe_ix (r := rIxT K) ix_tup (pv 0) pe_int (fun _ _ => rfl)))
      (pss_cons (ps_if (pt_cmpR op_eq (pv 2) pe_str (nomark _))
      (pss_one (ps_ret (pe_ix (r := rIxT K) ix_tup (pv 0) pe_int (fun _ _ => rfl))))
      pss_nil)
      (pss_cons (ps_if (pt_cmpR op_eq (pv 2) pe_str (nomark _))
      (pss_one (ps_ret (pe_ifExp (pt_val (pe_callH h_at_most (hr.mono (by decide)) rfl (pa_cons (pe_ix (r := rIxT K) ix_tup (pv 0) pe_int (fun _ _ => rfl)) (pa_cons (pe_ix (r := rIxL K) ix_list (pv 1) (pe_ix (r := rIxT K) ix_tup (pv 0) pe_int (fun _ _ => rfl)) (fun _ _ => rfl)) pa_nil)))) (pe_ix (r := rIxL K) ix_list (pv 1) (pe_ix (r := rIxT K) ix_tup (pv 0) pe_int (fun _ _ => rfl)) (fun _ _ => rfl)) pe_int)))
      pss_nil)
      (pss_cons (ps_setLc (i := 3) (own := [("cell", 4), ("shift", 5)]) (g := gTup K 2 (gCons (gName 4) (gCons (gName 5) gNil))) rfl sc_flat_value.nd rfl rfl (sw_true rfl rfl rfl (by decide +kernel)) (pi_list (pe_ix (r := rIxT K) ix_tup (pv 0) pe_int (fun _ _ => rfl))) (blkOk_by (N := n_flat_value) (sc := defScope s_flat_value) (by decide +kernel)) (fun _ _ _ _ _ => (pg_tup rfl (pgs_cons (pg_name (i := 4) sc_flat_value.nd rfl (Or.inl rfl)) (pgs_cons (pg_name (i := 5) sc_flat_value.nd rfl (Or.inl rfl)) pgs_nil)))) (fun _ _ _ _ _ => pts_nil) (fun _ _ _ _ _ => (pe_callH h_shifted (hr.mono (by decide)) rfl (pa_cons (pe_ix (r := rIxL K) ix_list (pv 1) (pv 4) (fun _ _ => rfl)) (pa_cons (pv 5) pa_nil)))))
      (pss_cons (ps_if (pt_cmpR op_eq (pv 2) pe_str (nomark _))
      (pss_one (ps_ret (pe_callH h_least_of (hr.mono (by decide)) rfl (pa_cons (pv 3) pa_nil))))
      pss_nil)
      (pss_one (ps_ret (pe_callH h_greatest_of (hr.mono (by decide)) rfl (pa_cons (pv 3) pa_nil))))))))), ?_⟩
    cases fm with
    | amt a =>
      have hf : SqT K H p [.str "amount", vA a] := hf
      refine ⟨_, rfl, p, _, 0, _, rfl, rfl, hf, atI_nat (j := 0) rfl, ?_⟩
      refine ⟨_, rfl, rfl, _, rfl, iteDT rfl ?_⟩
      exact ⟨_, rfl, p, _, 1, _, rfl, rfl, hf, atI_nat (j := 1) rfl, k _ (Same.refl _)⟩
    | cnd j a c =>
      have hf : SqT K H p [.str "when", vN j, vN a, vN c] := hf
      refine ⟨_, rfl, p, _, 0, _, rfl, rfl, hf, atI_nat (j := 0) rfl, ?_⟩
      refine ⟨_, rfl, rfl, _, rfl, iteDF n_wa ?_⟩
      refine ⟨_, rfl, rfl, _, rfl, iteDT rfl ?_⟩
      refine ⟨_, rfl, p, _, 2, _, rfl, rfl, hf, atI_nat (j := 2) rfl, ?_⟩
      refine ⟨_, rfl, _, rfl, p, _, 1, _, rfl, rfl, hf, atI_nat (j := 1) rfl, x, _, _, _, rfl, rfl, hx, at_vA ok.1, ?_⟩
      refine ⟨some a, _, rfl, _, rfl, ?_⟩
      have k := k H (Same.refl _)
      refine ite2 (fun h => ?_) (fun h => ?_)
      · refine ⟨_, rfl, _, rfl, p, _, 3, _, rfl, rfl, hf, atI_nat (j := 3) rfl, x, _, _, _, rfl, rfl, hx, at_vA ok.2.1, ?_⟩
        have e : fv (.cnd j a c) (xF xs) = xs.getD c none := if_pos (of_decide_eq_true h)
        rw [e] at k; exact k
      · have e : fv (.cnd j a c) (xF xs) = some 0 := if_neg (of_decide_eq_false (Bool.not_eq_true _ ▸ h))
        rw [e] at k; exact k
    | lst l =>
      obtain ⟨q, hf, ps, hq, hps⟩ := hf
      have hsh : l.length ≤ 6 := hsh
      have lps := hps.length
      refine ⟨_, rfl, p, _, 0, _, rfl, rfl, hf, atI_nat (j := 0) rfl, ?_⟩
      refine ⟨_, rfl, rfl, _, rfl, iteDF n_la ?_⟩
      refine ⟨_, rfl, rfl, _, rfl, iteDF n_lw ?_⟩
      refine ⟨_, rfl, p, _, 1, _, rfl, rfl, hf, atI_nat (j := 1) rfl, q, rfl, ⟨_, hq⟩, fun D hD => lc_list (K := K) (a := q) (xs := ps.map V.ref)
        (fun i H' => Same H H' ∧ H' D = some (.lst ((arcVals (l.take i) (xF xs)).map vA))) ⟨same_new hD, upd_same⟩ (fun i H' _ h => h.1.seq hq) ?_ ?_⟩
      · rintro i y H' hi ⟨sm, hD'⟩
        rw [List.getElem?_map] at hi
        cases e : ps[i]? with
        | none => rw [e] at hi; cases hi
        | some pa =>
          rw [e] at hi
          have hy : V.ref pa = y := Option.some.inj hi
          subst hy
          obtain ⟨⟨t, sft⟩, ea, ra⟩ := paired_at1 hps e
          have ht : t < xs.length := ok.2 t sft (List.mem_of_getElem? ea)
          have hil : i < l.length := (List.getElem?_eq_some_iff.mp ea).1
          refine ⟨_, _, rfl, SqT_ext (exN sm) ra, rfl, _, _, rfl, _, _, rfl, rfl, rfl, ?_⟩
          refine ⟨_, rfl, _, rfl, x, _, _, _, rfl, rfl, sm.seq hx, at_vA ht, _, rfl, _, _, rfl, _, hD', ?_, same_upd sm hD, ?_⟩
          · rw [List.length_map]; unfold arcVals; rw [List.length_map, List.length_take]
            exact line_of (m := 6) (by omega) (by omega)
          · rw [take_more ea]
            unfold arcVals
            rw [List.map_append, List.map_append]
            exact upd_same
      · rintro H' ⟨sm, hD'⟩
        rw [List.length_map, lps, List.take_length] at hD'
        refine ⟨_, rfl, rfl, _, rfl, iteDT rfl ?_⟩
        exact ⟨_, rfl, D, _, rfl, SqL.of hD', arcVals_ne ok.1, k _ sm⟩
    | gst l =>
      obtain ⟨q, hf, ps, hq, hps⟩ := hf
      have hsh : l.length ≤ 6 := hsh
      have lps := hps.length
      refine ⟨_, rfl, p, _, 0, _, rfl, rfl, hf, atI_nat (j := 0) rfl, ?_⟩
      refine ⟨_, rfl, rfl, _, rfl, iteDF n_ga ?_⟩
      refine ⟨_, rfl, rfl, _, rfl, iteDF n_gw ?_⟩
      refine ⟨_, rfl, p, _, 1, _, rfl, rfl, hf, atI_nat (j := 1) rfl, q, rfl, ⟨_, hq⟩, fun D hD => lc_list (K := K) (a := q) (xs := ps.map V.ref)
        (fun i H' => Same H H' ∧ H' D = some (.lst ((arcVals (l.take i) (xF xs)).map vA))) ⟨same_new hD, upd_same⟩ (fun i H' _ h => h.1.seq hq) ?_ ?_⟩
      · rintro i y H' hi ⟨sm, hD'⟩
        rw [List.getElem?_map] at hi
        cases e : ps[i]? with
        | none => rw [e] at hi; cases hi
        | some pa =>
          rw [e] at hi
          have hy : V.ref pa = y := Option.some.inj hi
          subst hy
          obtain ⟨⟨t, sft⟩, ea, ra⟩ := paired_at1 hps e
          have ht : t < xs.length := ok.2 t sft (List.mem_of_getElem? ea)
          have hil : i < l.length := (List.getElem?_eq_some_iff.mp ea).1
          refine ⟨_, _, rfl, SqT_ext (exN sm) ra, rfl, _, _, rfl, _, _, rfl, rfl, rfl, ?_⟩
          refine ⟨_, rfl, _, rfl, x, _, _, _, rfl, rfl, sm.seq hx, at_vA ht, _, rfl, _, _, rfl, _, hD', ?_, same_upd sm hD, ?_⟩
          · rw [List.length_map]; unfold arcVals; rw [List.length_map, List.length_take]
            exact line_of (m := 6) (by omega) (by omega)
          · rw [take_more ea]
            unfold arcVals
            rw [List.map_append, List.map_append]
            exact upd_same
      · rintro H' ⟨sm, hD'⟩
        rw [List.length_map, lps, List.take_length] at hD'
        refine ⟨_, rfl, rfl, _, rfl, iteDF n_gl ?_⟩
        exact ⟨_, rfl, D, _, rfl, SqL.of hD', arcVals_ne ok.1, k _ sm⟩
end
end WK

/-! arcs_of, conditions_of, opened, told_arcs, nought_cell -/
namespace WK
open PySem PySem.Spec PyProof.Rows L2 LamX CS
section
variable {P : Program} {w : World} {K : PySem.W.Frag} {mg : Str → Option Value} {base : Heap} {f : Addr} {fd : FuncData}

-- arcs_of: slots 0 flat, 1 cell, 2 formula
abbrev s_arcs_of : Stmt := top 7
abbrev n_arcs_of : List Str := ["flat", "cell", "formula"]
theorem sc_arcs_of : FnScope n_arcs_of ["flat", "cell"] (defScope s_arcs_of) := ⟨rfl, rfl, rfl, by decide +kernel, rfl, by decide +kernel, by decide +kernel⟩
def spArcsOf (K : PySem.W.Frag) : Sp := fun vs H Q _ => ∃ (p : Addr) (F : List Fm) (i : Nat), vs = [.ref p, vN i] ∧ ShAt K H p F ∧ i < F.length ∧ ∀ H' q, Same H H' → H q = none → ArcsAt K H' q (told (fF F i) none) → Q (.ref q) H'
theorem ok_arcs_of (F : Fun K "arcs_of" "arcs_of" s_arcs_of f fd) (B : Blt mg) : FnOk P w K mg base CX0 1 f fd ["flat", "cell"] (spArcsOf K) := by
  refine F.ok sc_arcs_of (fun vs H Q E h => ?_) (fun cdv A outer s H vs Q E hr h => ?_)
  · obtain ⟨p, F, i, rfl, _⟩ := h
    rfl
  · obtain ⟨p, F, i, rfl, hF, hi, k⟩ := h
    refine ⟨_, (pss_cons (ps_set (i := 2) sc_arcs_of.nd rfl (Or.inl rfl) (pe_ix (r := rIxL K) ix_list (pv 0) (pv 1) (fun _ _ => rfl)))
      (pss_cons (ps_if (pt_cmpR op_eq (pe_ix (r := rIxT K) ix_tup (pv 2) pe_int (fun _ _ => rfl)) pe_str (nomark _))
      (pss_one (ps_ret (pe_lst pa_nil)))
      pss_nil)
      (pss_cons (ps_if (pt_cmpR op_eq (pe_ix (r := rIxT K) ix_tup (pv 2) pe_int (fun _ _ => rfl)) pe_str (nomark _))
      (pss_one (ps_ret (pe_lst (pa_cons (pe_tup (pa_cons (pe_ix (r := rIxT K) ix_tup (pv 2) pe_int (fun _ _ => rfl)) (pa_cons pe_int pa_nil))) pa_nil))))
      pss_nil)
      (pss_one (ps_ret (pe_callTy call_list_of (by rfl) B.list (by decide +kernel) (pa_cons (pe_ix (r := rIxT K) ix_tup (pv 2) pe_int (fun _ _ => rfl)) pa_nil))))))), ?_⟩
    obtain ⟨xs, q, h1, h2, hf⟩ := hF.at_ (fF_at hi)
    refine ⟨_, rfl, _, rfl, p, _, _, _, rfl, rfl, h1, h2, ?_⟩
    generalize fF F i = fm at hf k
    cases fm with
    | amt a =>
      have hf : SqT K H q [.str "amount", vA a] := hf
      refine ⟨_, rfl, q, _, 0, _, rfl, rfl, hf, atI_nat (j := 0) rfl, ?_⟩
      refine ⟨rfl, _, rfl, iteDT rfl ?_⟩
      refine ⟨Nat.zero_le _, fun l hl => k _ l (same_new hl) hl ⟨[], SqL.of upd_same, .nil⟩⟩
    | cnd j a c =>
      have hf : SqT K H q [.str "when", vN j, vN a, vN c] := hf
      refine ⟨_, rfl, q, _, 0, _, rfl, rfl, hf, atI_nat (j := 0) rfl, ?_⟩
      refine ⟨rfl, _, rfl, iteDF n_wa ?_⟩
      refine ⟨_, rfl, q, _, 0, _, rfl, rfl, hf, atI_nat (j := 0) rfl, ?_⟩
      refine ⟨rfl, _, rfl, iteDT rfl ?_⟩
      refine ⟨_, rfl, q, _, 3, _, rfl, rfl, hf, atI_nat (j := 3) rfl, (by show 2 ≤ sizeLine; decide), fun t ht => ⟨(by show 1 ≤ sizeLine; decide), fun l hl => ?_⟩⟩
      have ne : t ≠ l := ne_of_none upd_same hl
      refine k _ l (same_new2 (same_new ht) hl) ((same_new ht).free hl) ⟨[t], SqL.of upd_same, .cons (SqT.of ?_) .nil⟩
      rw [upd_ne ne]; exact upd_same
    | lst l =>
      obtain ⟨r, hf, hl⟩ := hf
      obtain ⟨ps, g1, g2⟩ := hl
      refine ⟨_, rfl, q, _, 0, _, rfl, rfl, hf, atI_nat (j := 0) rfl, ?_⟩
      refine ⟨rfl, _, rfl, iteDF n_la ?_⟩
      refine ⟨_, rfl, q, _, 0, _, rfl, rfl, hf, atI_nat (j := 0) rfl, ?_⟩
      refine ⟨rfl, _, rfl, iteDF n_lw ?_⟩
      refine ⟨_, rfl, q, _, 1, _, rfl, rfl, hf, atI_nat (j := 1) rfl, r, _, rfl, .inl g1, fun c hc => ?_⟩
      exact k _ c (same_new hc) hc ⟨ps, SqL.of upd_same, Paired.mapP g2 fun _ _ => ArcAt.ext (exN (same_new hc))⟩
    | gst l =>
      obtain ⟨r, hf, hl⟩ := hf
      obtain ⟨ps, g1, g2⟩ := hl
      refine ⟨_, rfl, q, _, 0, _, rfl, rfl, hf, atI_nat (j := 0) rfl, ?_⟩
      refine ⟨rfl, _, rfl, iteDF n_ga ?_⟩
      refine ⟨_, rfl, q, _, 0, _, rfl, rfl, hf, atI_nat (j := 0) rfl, ?_⟩
      refine ⟨rfl, _, rfl, iteDF n_gw ?_⟩
      refine ⟨_, rfl, q, _, 1, _, rfl, rfl, hf, atI_nat (j := 1) rfl, r, _, rfl, .inl g1, fun c hc => ?_⟩
      exact k _ c (same_new hc) hc ⟨ps, SqL.of upd_same, Paired.mapP g2 fun _ _ => ArcAt.ext (exN (same_new hc))⟩

/-- the first word of a formula -/
def word : Fm → V
  | .amt _ => .str "amount"
  | .lst _ => .str "least"
  | .gst _ => .str "greatest"
  | .cnd _ _ _ => .str "when"
theorem word_at {H : Hp} {q : Addr} {fm : Fm} (h : FmAt K H q fm) : ∃ xs, SqT K H q xs ∧ atI xs 0 = some (word fm) := by
  cases fm with
  | amt a => exact ⟨_, h, atI_nat (j := 0) rfl⟩
  | lst l => obtain ⟨r, h, _⟩ := h; exact ⟨_, h, atI_nat (j := 0) rfl⟩
  | gst l => obtain ⟨r, h, _⟩ := h; exact ⟨_, h, atI_nat (j := 0) rfl⟩
  | cnd j a k => exact ⟨_, h, atI_nat (j := 0) rfl⟩
theorem word_when (fm : Fm) : decide (word fm = .str "when") = isC fm := by
  cases fm with
  | amt a => exact decide_eq_false n_aw
  | lst l => exact decide_eq_false n_lw
  | gst l => exact decide_eq_false n_gw
  | cnd j a k => exact decide_eq_true rfl
theorem word_scal (fm : Fm) (x : Str) : scal (word fm) (.str x) = true := by cases fm <;> rfl

-- conditions_of: slots 0 flat, 1 cell
abbrev s_conditions_of : Stmt := top 9
abbrev n_conditions_of : List Str := ["flat", "cell"]
theorem sc_conditions_of : FnScope n_conditions_of ["flat"] (defScope s_conditions_of) := ⟨rfl, rfl, rfl, by decide +kernel, rfl, by decide +kernel, by decide +kernel⟩
def conds (F : List Fm) : List Nat := (List.range F.length).filter fun u => isC (fF F u)
def spConditions (K : PySem.W.Frag) : Sp := fun vs H Q _ => ∃ (p : Addr) (F : List Fm), vs = [.ref p] ∧ ShAt K H p F ∧ F.length ≤ 600 ∧ ∀ H' q, Same H H' → H q = none → H' q = some (.lst ((conds F).map vN)) → Q (.ref q) H'
theorem ok_conditions_of (F : Fun K "conditions_of" "conditions_of" s_conditions_of f fd) (B : Blt mg) : FnOk P w K mg base CX0 1 f fd ["flat"] (spConditions K) := by
  refine F.ok sc_conditions_of (fun vs H Q E h => ?_) (fun cdv A outer s H vs Q E hr h => ?_)
  · obtain ⟨p, F, rfl, _⟩ := h
    rfl
  · obtain ⟨p, F, rfl, hF, hlen, k⟩ := h
    refine ⟨_, (pss_one (ps_ret (pe_lc (own := [("cell", 1)]) (g := gName 1) rfl sc_conditions_of.nd  (pi_range1 (by rfl) B.range (pa_cons (pe_callB call_len_seq (by rfl) B.len PySem.boot_len (pa_cons (pv 0) pa_nil)) pa_nil)) (blkOk_by (N := n_conditions_of) (sc := defScope s_conditions_of) (by decide +kernel)) (fun _ _ _ _ _ => (pg_name (i := 1) sc_conditions_of.nd rfl (Or.inl rfl))) (fun _ _ _ _ _ => (pts_one (pt_cmpR op_eq (pe_ix (r := rIxT K) ix_tup (pe_ix (r := rIxL K) ix_list (pv 0) (pv 1) (fun _ _ => rfl)) pe_int (fun _ _ => rfl)) pe_str (nomark _)))) (fun _ _ _ _ _ => (pv 1))))), ?_⟩
    obtain ⟨xs, h1, h2⟩ := hF.len
    refine ⟨_, rfl, p, _, rfl, .inl h1, _, rfl, by omega, by omega, fun D hD => lc_range0 (n := xs.length)
      (fun i H' => Same H H' ∧ H' D = some (.lst (((List.range i).filter fun u => isC (fF F u)).map vN))) ⟨same_new hD, upd_same⟩ ?_ ?_⟩
    · rintro i H' hi ⟨sm, hD'⟩
      obtain ⟨ys, q, g1, g2, g3⟩ := (ShAt.ext (exN sm) hF).at_ (fF_at (F := F) (i := i) (by omega))
      obtain ⟨zs, g4, g5⟩ := word_at g3
      refine ⟨rfl, _, rfl, _, rfl, p, _, _, _, rfl, rfl, g1, g2, q, _, 0, _, rfl, rfl, g4, g5, word_scal _ _, _, rfl, ?_⟩
      have fm := filter_more (fun u => isC (fF F u)) i
      refine ite2 (fun c => ?_) (fun c => ?_)
      · rw [word_when] at c
        refine ⟨_, rfl, _, hD', ?_, same_upd sm hD, ?_⟩
        · rw [List.length_map]
          exact line_of (Nat.le_trans (filter_len _ i) (show i ≤ 600 by omega)) (by omega)
        · rw [fm, if_pos c, List.map_append]; exact upd_same
      · rw [word_when] at c
        refine ⟨sm, ?_⟩
        rw [fm, if_neg c]; exact hD'
    · rintro H' ⟨sm, hD'⟩
      rw [h2] at hD'
      exact k _ D sm hD hD'
end
end WK

/-! opened, told_arcs, nought_cell -/
namespace WK
open PySem PySem.Spec PyProof.Rows L2 LamX CS
section
variable {P : Program} {w : World} {K : PySem.W.Frag} {mg : Str → Option Value} {base : Heap} {f : Addr} {fd : FuncData}

-- opened: slots 0 flat, 1 places, 2 found, 3 cell, 4 formula
abbrev s_opened : Stmt := top 10
abbrev n_opened : List Str := ["flat", "places", "found", "cell", "formula"]
theorem sc_opened : FnScope n_opened ["flat", "places"] (defScope s_opened) := ⟨rfl, rfl, rfl, by decide +kernel, rfl, by decide +kernel, by decide +kernel⟩
/-- the sheet with these conditions open -/
def opL (F : List Fm) (pl : List Nat) : List Fm := (List.range F.length).map fun u => op (fF F) (fun v => decide (v ∈ pl)) u
def spOpened (K : PySem.W.Frag) : Sp := fun vs H Q _ => ∃ (p r : Addr) (F : List Fm) (pl : List Nat), vs = [.ref p, .ref r] ∧ ShAt K H p F ∧ SqL K H r (pl.map vN) ∧ F.length ≤ 600 ∧ ∀ H' q, Same H H' → H q = none → ShAt K H' q (opL F pl) → Q (.ref q) H'
/-- what the loop has put together so far -/
def Filling {α : Type} (R : Hp → Addr → α → Prop) (H H' : Hp) (D : Addr) (l : List α) : Prop :=
  Same H (del H' D) ∧ ∃ qs : List Addr, H' D = some (.lst (qs.map V.ref)) ∧ Paired (R (del H' D)) qs l
theorem Filling.more {α : Type} {R : Hp → Addr → α → Prop} {H H1 H2 : Hp} {D q : Addr} {l : List α} {a : α} {qs : List Addr} (hR : ∀ H H' q a, Same H H' → R H q a → R H' q a) (h1 : Same H (del H1 D)) (h2 : Paired (R (del H1 D)) qs l)
    (s : Same (del H1 D) (del H2 D)) (h : R (del H2 D) q a) : Filling R H (upd H2 D (.lst (qs.map V.ref ++ [.ref q]))) D (l ++ [a]) := by
  refine ⟨?_, qs ++ [q], ?_, ?_⟩
  · rw [del_upd]; exact h1.trans s
  · rw [List.map_append]; exact upd_same
  · rw [del_upd]; exact Paired.snoc (Paired.mapP h2 fun _ _ z => hR _ _ _ _ s z) h
theorem Filling.done {α : Type} {R : Hp → Addr → α → Prop} {H H1 : Hp} {D : Addr} {l : List α} (hR : ∀ H H' q a, Same H H' → R H q a → R H' q a) (h : Filling R H H1 D l) : Same H H1 ∧ LsAt K R H1 D l := by
  obtain ⟨h1, qs, h2, h3⟩ := h
  exact ⟨h1.trans del_same, qs, SqL.of h2, Paired.mapP h3 fun _ _ z => hR _ _ _ _ del_same z⟩
theorem fmS {K : PySem.W.Frag} : ∀ H H' q a, Same H H' → FmAt K H q a → FmAt K H' q a := fun _ _ _ _ s h => FmAt.ext (exN s) h
theorem arcsS {K : PySem.W.Frag} : ∀ H H' q a, Same H H' → ArcsAt K H q a → ArcsAt K H' q a := fun _ _ _ _ s h => ArcsAt.ext (exN s) h
theorem paired_len {α β : Type} {F : α → β → Prop} {n : Nat} {g : Nat → β} {l : List α} (h : Paired F l ((List.range n).map g)) : l.length = n := by
  rw [h.length, List.length_map, List.length_range]

theorem ok_opened (F : Fun K "opened" "opened" s_opened f fd) (B : Blt mg) : FnOk P w K mg base CX0 1 f fd ["flat", "places"] (spOpened K) := by
  refine F.ok sc_opened (fun vs H Q E h => ?_) (fun cdv A outer s H vs Q E hr h => ?_)
  · obtain ⟨p, r, F, pl, rfl, _⟩ := h
    rfl
  · obtain ⟨p, r, F, pl, rfl, hF, hpl, hlen, k⟩ := h
    refine ⟨_, (pss_cons (ps_set (i := 2) sc_opened.nd rfl (Or.inl rfl) (pe_lst pa_nil))
      (pss_cons (ps_for PassesOwn.never rfl (pi_enum (by rfl) B.enumerate (pa_cons (pv 0) pa_nil)) (pg_tup rfl (pgs_cons (pg_name (i := 3) sc_opened.nd rfl (Or.inl rfl)) (pgs_cons (pg_name (i := 4) sc_opened.nd rfl (Or.inl rfl)) pgs_nil)))
      (pss_one (ps_if (pt_cmpR op_ne (pe_ix (r := rIxT K) ix_tup (pv 4) pe_int (fun _ _ => rfl)) pe_str (nomark _))
        (pss_one (ps_expr (pe_bm PySem.F.plainAttrs_list PySem.F.slot_list_append PySem.F.type_list_append mt_append (pv 2) (pa_cons (pe_ifExp (pt_cmpR op_eq (pe_ix (r := rIxT K) ix_tup (pv 4) pe_int (fun _ _ => rfl)) pe_str (nomark _)) (pv 4) (pe_tup (pa_cons (pe_ix (r := rIxT K) ix_tup (pv 4) pe_int (fun _ _ => rfl)) (pa_cons (pe_callTy call_list_of (by rfl) B.list (by decide +kernel) (pa_cons (pe_ix (r := rIxT K) ix_tup (pv 4) pe_int (fun _ _ => rfl)) pa_nil)) pa_nil)))) pa_nil))))
        (pss_one (ps_if (pt_cmpR (r := rIn K false) op_in_seq (pv 3) (pv 1) (by rfl))
          (pss_one (ps_expr (pe_bm PySem.F.plainAttrs_list PySem.F.slot_list_append PySem.F.type_list_append mt_append (pv 2) (pa_cons (pe_tup (pa_cons pe_str (pa_cons (pe_lst (pa_cons (pe_tup (pa_cons (pe_ix (r := rIxT K) ix_tup (pv 4) pe_int (fun _ _ => rfl)) (pa_cons pe_int pa_nil))) pa_nil)) pa_nil))) pa_nil))))
          (pss_one (ps_expr (pe_bm PySem.F.plainAttrs_list PySem.F.slot_list_append PySem.F.type_list_append mt_append (pv 2) (pa_cons (pe_tup (pa_cons pe_str (pa_cons pe_int pa_nil))) pa_nil)))))))))
      (pss_one (ps_ret (pv 2))))), ?_⟩
    refine ⟨Nat.zero_le _, fun D hD => ?_⟩
    have hD0 : Same H (upd H D (.lst [])) := same_new hD
    obtain ⟨ps, hq, hps⟩ := id hF
    have lps := hps.length
    refine ⟨_, rfl, p, _, rfl, hD0.seq hq, for_enum (K := K) (a := p) (xs := ps.map V.ref)
      (fun i σ H' => Filling (FmAt K) H H' D ((List.range i).map fun u => op (fF F) (fun v => decide (v ∈ pl)) u) ∧ ∃ v3 v4, σ = [some (.ref p), some (.ref r), some (.ref D), v3, v4])
      ⟨⟨same_del hD hD0, [], upd_same, .nil⟩, none, none, rfl⟩ (fun i σ H' _ h => (h.1.1.trans del_same).seq hq) ?_ ?_⟩
    · rintro i x T σ H' hi ⟨⟨sm, qs, hDq, hpr⟩, v3, v4, rfl⟩ hT
      rw [List.getElem?_map] at hi
      cases e : ps[i]? with
      | none => rw [e] at hi; cases hi
      | some q =>
        rw [e] at hi
        have hy : V.ref q = x := Option.some.inj hi
        subst hy
        have hil : i < F.length := by have := (List.getElem?_eq_some_iff.mp e).1; omega
        obtain ⟨fm', ea, hf⟩ := paired_at1 hps e
        rw [fF_at hil] at ea
        have ea := Option.some.inj ea
        subst ea
        -- behind the pair
        have hTD : D ≠ T := ne_of_none hDq hT
        have sT : Same H' (upd H' T (.tup [vN i, .ref q])) := same_new hT
        have hD1 := sT _ _ hDq
        have sm1 : Same H (upd H' T (.tup [vN i, .ref q])) := (sm.trans del_same).trans sT
        have hf1 := fmS _ _ _ _ sm1 hf
        have sz : (qs.map V.ref).length < sizeLine := by
          rw [List.length_map, paired_len hpr]
          exact line_of (m := 600) (by omega) (by omega)
        refine ⟨T, _, rfl, SqT.of upd_same, rfl, _, _, rfl, _, _, rfl, rfl, ?_⟩
        have rng := range_more (fun u => op (fF F) (fun v => decide (v ∈ pl)) u) i
        rw [rng]
        have dl : Same (del H' D) (del (upd H' T (.tup [vN i, .ref q])) D) := del_mono sT
        have hop : op (fF F) (fun v => decide (v ∈ pl)) i = match fF F i with
          | .cnd _ _ k => if decide (i ∈ pl) then .gst [(k, 0)] else .amt (some 0)
          | f => f := rfl
        rw [hop]
        generalize fF F i = fm at hf hf1
        obtain ⟨ws, hw1, hw2⟩ := word_at hf1
        refine ⟨_, rfl, q, _, 0, _, rfl, rfl, hw1, hw2, word_scal _ _, _, rfl, ?_⟩
        cases fm with
        | amt a =>
          refine iteND n_aw ?_
          refine ⟨_, rfl, .inl ⟨rfl, _, SqL.of hD1⟩, _, rfl, q, _, 0, _, rfl, rfl, hw1, hw2, rfl, _, rfl, iteDT rfl ?_⟩
          refine ⟨_, rfl, D, _, _, rfl, rfl, hD1, sz, ?_⟩
          refine ⟨Filling.more fmS sm hpr dl ?_, _, _, rfl⟩
          exact fmS _ _ _ _ (same_del hD sm1) hf
        | cnd j a c =>
          refine iteNT rfl ?_
          refine ⟨_, rfl, _, rfl, r, _, rfl, .inl (sm1.seq hpl), rfl, flat_nat _, _, rfl, ?_⟩
          rw [inV_nat]
          refine ite2 (fun hin => ?_) (fun hin => ?_)
          · have hf1 : SqT K _ q [.str "when", vN j, vN a, vN c] := hf1
            refine ⟨_, rfl, .inl ⟨rfl, _, SqL.of hD1⟩, _, rfl, q, _, 3, _, rfl, rfl, hf1, atI_nat (j := 3) rfl, (by show 2 ≤ sizeLine; decide), fun t ht => ⟨(by show 1 ≤ sizeLine; decide), fun l hl => ⟨(by show 2 ≤ sizeLine; decide), fun g hg => ?_⟩⟩⟩
            have s1 := same_new (o := .tup [vN c, .int 0]) ht
            have s2 := same_new (o := .lst [.ref t]) hl
            have s3 := same_new (o := .tup [.str "greatest", .ref l]) hg
            have hD2 := s3 _ _ (s2 _ _ (s1 _ _ hD1))
            refine ⟨D, _, _, rfl, rfl, hD2, sz, ?_⟩
            refine ⟨Filling.more fmS sm hpr (dl.trans (del_mono (s1.trans (s2.trans s3)))) ?_, _, _, rfl⟩
            have nt : t ≠ D := fun z => by rw [z, hD1] at ht; cases ht
            have nl : l ≠ D := fun z => by rw [z] at hl; have := s1 _ _ hD1; rw [hl] at this; cases this
            have ng : g ≠ D := fun z => by rw [z] at hg; have := s2 _ _ (s1 _ _ hD1); rw [hg] at this; cases this
            have hin' : decide (i ∈ pl) = true := hin
            show FmAt K _ g (if decide (i ∈ pl) = true then .gst [(c, 0)] else .amt (some 0))
            rw [if_pos hin']
            refine ⟨l, SqT.of ((del_ne ng).trans upd_same), [t], SqL.of ((del_ne nl).trans (s3 _ _ upd_same)), .cons (SqT.of ((del_ne nt).trans (s3 _ _ (s2 _ _ upd_same)))) .nil⟩
          · refine ⟨_, rfl, .inl ⟨rfl, _, SqL.of hD1⟩, (by show 2 ≤ sizeLine; decide), fun g hg => ?_⟩
            have s3 := same_new (o := .tup [.str "amount", .int 0]) hg
            have hD2 := s3 _ _ hD1
            refine ⟨D, _, _, rfl, rfl, hD2, sz, ?_⟩
            refine ⟨Filling.more fmS sm hpr (dl.trans (del_mono s3)) ?_, _, _, rfl⟩
            have ng : g ≠ D := fun z => by rw [z, hD1] at hg; cases hg
            have hin' : ¬ decide (i ∈ pl) = true := hin
            show FmAt K _ g (if decide (i ∈ pl) = true then .gst [(c, 0)] else .amt (some 0))
            rw [if_neg hin']
            exact SqT.of ((del_ne ng).trans upd_same)
        | lst l =>
          obtain ⟨c0, hf1, hl1⟩ := hf1
          obtain ⟨as, ha1, ha2⟩ := hl1
          refine iteND n_lw ?_
          refine ⟨_, rfl, .inl ⟨rfl, _, SqL.of hD1⟩, _, rfl, q, _, 0, _, rfl, rfl, hw1, hw2, rfl, _, rfl, iteDF n_la ?_⟩
          refine ⟨_, rfl, q, _, 0, _, rfl, rfl, hw1, hw2, _, rfl, q, _, 1, _, rfl, rfl, hf1, atI_nat (j := 1) rfl, c0, _, rfl, .inl ha1, fun c hc => ⟨(by show 2 ≤ sizeLine; decide), fun g hg => ?_⟩⟩
          have s2 := same_new (o := .lst (as.map V.ref)) hc
          have s3 := same_new (o := .tup [word (.lst l), .ref c]) hg
          have hD2 := s3 _ _ (s2 _ _ hD1)
          refine ⟨D, _, _, rfl, rfl, hD2, sz, ?_⟩
          refine ⟨Filling.more fmS sm hpr (dl.trans (del_mono (s2.trans s3))) ?_, _, _, rfl⟩
          have nc : c ≠ D := fun z => by rw [z, hD1] at hc; cases hc
          have ng : g ≠ D := fun z => by rw [z] at hg; have := s2 _ _ hD1; rw [hg] at this; cases this
          refine ⟨c, SqT.of ((del_ne ng).trans upd_same), as, SqL.of ((del_ne nc).trans (s3 _ _ upd_same)), Paired.mapP ha2 fun _ _ z => sqT_del hD2 (SqT_ext (exN (s2.trans s3)) z)⟩
        | gst l =>
          obtain ⟨c0, hf1, hl1⟩ := hf1
          obtain ⟨as, ha1, ha2⟩ := hl1
          refine iteND n_gw ?_
          refine ⟨_, rfl, .inl ⟨rfl, _, SqL.of hD1⟩, _, rfl, q, _, 0, _, rfl, rfl, hw1, hw2, rfl, _, rfl, iteDF n_ga ?_⟩
          refine ⟨_, rfl, q, _, 0, _, rfl, rfl, hw1, hw2, _, rfl, q, _, 1, _, rfl, rfl, hf1, atI_nat (j := 1) rfl, c0, _, rfl, .inl ha1, fun c hc => ⟨(by show 2 ≤ sizeLine; decide), fun g hg => ?_⟩⟩
          have s2 := same_new (o := .lst (as.map V.ref)) hc
          have s3 := same_new (o := .tup [word (.gst l), .ref c]) hg
          have hD2 := s3 _ _ (s2 _ _ hD1)
          refine ⟨D, _, _, rfl, rfl, hD2, sz, ?_⟩
          refine ⟨Filling.more fmS sm hpr (dl.trans (del_mono (s2.trans s3))) ?_, _, _, rfl⟩
          have nc : c ≠ D := fun z => by rw [z, hD1] at hc; cases hc
          have ng : g ≠ D := fun z => by rw [z] at hg; have := s2 _ _ hD1; rw [hg] at this; cases this
          refine ⟨c, SqT.of ((del_ne ng).trans upd_same), as, SqL.of ((del_ne nc).trans (s3 _ _ upd_same)), Paired.mapP ha2 fun _ _ z => sqT_del hD2 (SqT_ext (exN (s2.trans s3)) z)⟩
    · rintro σ H' ⟨fl, v3, v4, rfl⟩
      rw [List.length_map, lps] at fl
      obtain ⟨sm, hs⟩ := fl.done fmS
      exact ⟨_, rfl, k _ D sm hD hs⟩

-- told_arcs: slots 0 plain, 1 choices, 2 word, 3 found, 4 cell, 5 arcs
abbrev s_told_arcs : Stmt := top 11
abbrev n_told_arcs : List Str := ["plain", "choices", "word", "found", "cell", "arcs"]
theorem sc_told_arcs : FnScope n_told_arcs ["plain", "choices", "word"] (defScope s_told_arcs) := ⟨rfl, rfl, rfl, by decide +kernel, rfl, by decide +kernel, by decide +kernel⟩
/-- the told arcs of each cell -/
def toldL (F : List Fm) (c : Ch) : List (List Arc) := (List.range F.length).map fun u => told (fF F u) (chF c u)
def spTold (K : PySem.W.Frag) : Sp := fun vs H Q _ => ∃ (p r : Addr) (F : List Fm) (c : Ch), vs = [.ref p, .ref r, .str "greatest"] ∧ ShAt K H p F ∧ SqL K H r (c.map vA) ∧ F.length ≤ 600 ∧ c.length = F.length ∧ (∀ u, NoCnd (fF F u)) ∧ ChOk F.length (fF F) (chF c) ∧
  ∀ H' q, Same H H' → H q = none → LsAt K (ArcsAt K) H' q (toldL F c) → Q (.ref q) H'
theorem ok_told_arcs (F : Fun K "told_arcs" "told_arcs" s_told_arcs f fd) (B : Blt mg) (h_arcs_of : Has P w K mg base 1 "arcs_of" ["flat", "cell"] (spArcsOf K)) : FnOk P w K mg base CX0 2 f fd ["plain", "choices", "word"] (spTold K) := by
  refine F.ok sc_told_arcs (fun vs H Q E h => ?_) (fun cdv A outer s H vs Q E hr h => ?_)
  · obtain ⟨p, r, F, c, rfl, _⟩ := h
    rfl
  · obtain ⟨p, r, F, c, rfl, hF, hc, hlen, hcl, hno, hch, k⟩ := h
    refine ⟨_, (pss_cons (ps_set (i := 3) sc_told_arcs.nd rfl (Or.inl rfl) (pe_lst pa_nil))
      (pss_cons (ps_for PassesOwn.never rfl (pi_range1 (by rfl) B.range (pa_cons (pe_callB call_len_seq (by rfl) B.len PySem.boot_len (pa_cons (pv 0) pa_nil)) pa_nil)) (pg_name (i := 4) sc_told_arcs.nd rfl (Or.inl rfl))
      (pss_cons (ps_set (i := 5) sc_told_arcs.nd rfl (Or.inl rfl) (pe_callH h_arcs_of (hr.mono (by decide)) rfl (pa_cons (pv 0) (pa_cons (pv 4) pa_nil))))
        (pss_one (ps_expr (pe_bm PySem.F.plainAttrs_list PySem.F.slot_list_append PySem.F.type_list_append mt_append (pv 3) (pa_cons (pe_ifExp (pt_cmpR op_eq (pe_ix (r := rIxT K) ix_tup (pe_ix (r := rIxL K) ix_list (pv 0) (pv 4) (fun _ _ => rfl)) pe_int (fun _ _ => rfl)) (pv 2) (nomark _)) (pe_lst (pa_cons (pe_ix (r := rIxL K) ix_list (pv 5) (pe_ix (r := rIxL K) ix_list (pv 1) (pv 4) (fun _ _ => rfl)) (fun _ _ => rfl)) pa_nil)) (pv 5)) pa_nil))))))
      (pss_one (ps_ret (pv 3))))), ?_⟩
    refine ⟨Nat.zero_le _, fun D hD => ?_⟩
    have hD0 : Same H (upd H D (.lst [])) := same_new hD
    obtain ⟨xs, h1, h2⟩ := hF.len
    refine ⟨_, rfl, p, _, rfl, .inl (hD0.seq h1), _, rfl, by omega, by omega, for_range0 (n := xs.length)
      (fun i σ H' => Filling (ArcsAt K) H H' D ((List.range i).map fun u => told (fF F u) (chF c u)) ∧ ∃ v4 v5, σ = [some (.ref p), some (.ref r), some (.str "greatest"), some (.ref D), v4, v5])
      ⟨⟨same_del hD hD0, [], upd_same, .nil⟩, none, none, rfl⟩ ?_ ?_⟩
    · rintro i σ H' hi ⟨⟨sm, qs, hDq, hpr⟩, v4, v5, rfl⟩
      have hil : i < F.length := by omega
      have sm0 := sm.trans del_same
      have sz : (qs.map V.ref).length < sizeLine := by
        rw [List.length_map, paired_len hpr]
        exact line_of (m := 600) (by omega) (by omega)
      refine ⟨_, rfl, _, rfl, p, F, i, rfl, ShAt.ext (exN sm0) hF, hil, fun H1 q s1 hq ha => ?_⟩
      have hD1 := s1 _ _ hDq
      have nq : q ≠ D := fun z => by rw [z, hDq] at hq; cases hq
      have ha1 := arcs_del hD1 nq ha
      have sm1 := sm0.trans s1
      rw [range_more (fun u => told (fF F u) (chF c u)) i]
      obtain ⟨ys, g, g1, g2, g3⟩ := (ShAt.ext (exN sm1) hF).at_ (fF_at hil)
      obtain ⟨ws, hw1, hw2⟩ := word_at g3
      refine ⟨_, rfl, .inl ⟨rfl, _, SqL.of hD1⟩, ?_⟩
      refine ⟨_, rfl, _, rfl, p, _, _, _, rfl, rfl, g1, g2, g, _, 0, _, rfl, rfl, hw1, hw2, _, rfl, word_scal _ _, _, rfl, ?_⟩
      have hci := hch i hil
      have hni := hno i
      have hat : atI (c.map vA) (i : Int) = some (vA (chF c i)) := at_vA (by omega)
      generalize fF F i = fm at ha ha1 hci hni hw2
      generalize chF c i = ci at hci hat
      cases fm with
      | amt a => exact iteDF n_ag ⟨_, rfl, D, _, _, rfl, rfl, hD1, sz, ⟨Filling.more arcsS sm hpr (del_mono s1) ha1, _, _, rfl⟩⟩
      | lst l => exact iteDF n_lg ⟨_, rfl, D, _, _, rfl, rfl, hD1, sz, ⟨Filling.more arcsS sm hpr (del_mono s1) ha1, _, _, rfl⟩⟩
      | cnd j a c => exact hni.elim
      | gst l =>
        obtain ⟨kk, e1, e2⟩ := hci
        subst e1
        have ha : ArcsAt K H1 q l := ha
        obtain ⟨zs, pa, z1, z2, z3⟩ := ha.at_ (get_some e2)
        refine iteDT rfl ⟨_, rfl, _, rfl, _, rfl, r, _, _, _, rfl, rfl, sm1.seq hc, hat, q, _, _, _, rfl, rfl, z1, z2, (by show 1 ≤ sizeLine; decide), fun l2 hl => ?_⟩
        have s2 := same_new (o := .lst [.ref pa]) hl
        have hD2 := s2 _ _ hD1
        have nl : l2 ≠ D := fun z => by rw [z, hD1] at hl; cases hl
        refine ⟨D, _, _, rfl, rfl, hD2, sz, ⟨Filling.more arcsS sm hpr (del_mono (s1.trans s2)) ?_, _, _, rfl⟩⟩
        refine ⟨[pa], SqL.of ((del_ne nl).trans upd_same), .cons ?_ .nil⟩
        rw [getD_el _ _ _ e2]
        exact sqT_del hD2 (SqT_ext (exN s2) z3)
    · rintro σ H' ⟨fl, v4, v5, rfl⟩
      rw [h2] at fl
      obtain ⟨sm, hs⟩ := fl.done arcsS
      exact ⟨_, rfl, k _ D sm hD hs⟩

-- nought_cell: slots 0 circle, 1 total, 2 best, 3 found, 4 place, 5 cell, 6 shift
abbrev s_nought_cell : Stmt := top 13
abbrev n_nought_cell : List Str := ["circle", "total", "best", "found", "place", "cell", "shift"]
theorem sc_nought_cell : FnScope n_nought_cell ["circle"] (defScope s_nought_cell) := ⟨rfl, rfl, rfl, by decide +kernel, rfl, by decide +kernel, by decide +kernel⟩
def circL (m : Nat) (a : Nat → Nat) (s : Nat → Int) : List Arc := (List.range m).map fun i => (a i, s i)
def spNought (K : PySem.W.Frag) : Sp := fun vs H Q _ => ∃ (p : Addr) (n m : Nat) (A : Nat → List Arc) (a : Nat → Nat) (s : Nat → Int), vs = [.ref p] ∧ Circ n A m a s ∧ ArcsAt K H p (circL m a s) ∧ m ≤ 600 ∧ ∀ H' z, Same H H' → Nought n A z → Q (vN z) H'
theorem circL_at {m : Nat} {a : Nat → Nat} {s : Nat → Int} {i : Nat} (h : i < m) : (circL m a s)[i]? = some (a i, s i) := by
  unfold circL
  rw [List.getElem?_map, List.getElem?_range h]; rfl
theorem ok_nought_cell (F : Fun K "nought_cell" "nought_cell" s_nought_cell f fd) (B : Blt mg) : FnOk P w K mg base CX0 1 f fd ["circle"] (spNought K) := by
  refine F.ok sc_nought_cell (fun vs H Q E h => ?_) (fun cdv A outer s H vs Q E hr h => ?_)
  · obtain ⟨p, n, m, A, a, s, rfl, _⟩ := h
    rfl
  · obtain ⟨p, n, m, A', a, s, rfl, hC, hL, hm, k⟩ := h
    refine ⟨_, (pss_cons (ps_set (i := 1) sc_nought_cell.nd rfl (Or.inl rfl) pe_int)
      (pss_cons (ps_set (i := 2) sc_nought_cell.nd rfl (Or.inl rfl) pe_int)
      (pss_cons (ps_set (i := 3) sc_nought_cell.nd rfl (Or.inl rfl) (pe_ix (r := rIxT K) ix_tup (pe_ix (r := rIxL K) ix_list (pv 0) pe_int (fun _ _ => rfl)) pe_int (fun _ _ => rfl)))
      (pss_cons (ps_for PassesOwn.never rfl (pi_enum (by rfl) B.enumerate (pa_cons (pv 0) pa_nil)) (pg_tup rfl (pgs_cons (pg_name (i := 4) sc_nought_cell.nd rfl (Or.inl rfl)) (pgs_cons (pg_tup rfl (pgs_cons (pg_name (i := 5) sc_nought_cell.nd rfl (Or.inl rfl)) (pgs_cons (pg_name (i := 6) sc_nought_cell.nd rfl (Or.inl rfl)) pgs_nil))) pgs_nil)))
      (pss_cons (ps_aug (i := 1) sc_nought_cell.nd rfl (Or.inl rfl) (pv 6) ip_add)
        (pss_one (ps_if (pt_cmpR op_gt (pv 1) (pv 2) (nomark _))
        (pss_cons (ps_set (i := 2) sc_nought_cell.nd rfl (Or.inl rfl) (pv 1))
          (pss_one (ps_set (i := 3) sc_nought_cell.nd rfl (Or.inl rfl) (pe_ix (r := rIxT K) ix_tup (pe_ix (r := rIxL K) ix_list (pv 0) (pe_op op_mod (pe_op op_add (pv 4) pe_int) (pe_callB call_len_seq (by rfl) B.len PySem.boot_len (pa_cons (pv 0) pa_nil))) (fun _ _ => rfl)) pe_int (fun _ _ => rfl)))))
        pss_nil))))
      (pss_one (ps_ret (pv 3))))))), ?_⟩
    have h0 : 0 < m := hC.pos
    obtain ⟨xs, q, h1, h2, h3⟩ := hL.at_ (circL_at h0)
    obtain ⟨ps, hq, hps⟩ := id hL
    have lps : ps.length = m := by rw [hps.length]; unfold circL; rw [List.length_map, List.length_range]
    refine ⟨_, rfl, p, _, 0, _, rfl, rfl, h1, h2, q, _, 0, _, rfl, rfl, h3, atI_nat (j := 0) rfl, ?_⟩
    refine ⟨_, rfl, p, _, rfl, hq, for_enum (K := K) (a := p) (xs := ps.map V.ref)
      (fun i σ H' => Same H H' ∧ ∃ (t b : Int) (z : Nat) (v4 v5 v6 : Option V), NSeek m a s i t b z ∧ σ = [some (.ref p), some (.int t), some (.int b), some (vN z), v4, v5, v6])
      ⟨Same.refl _, 0, 0, a 0, none, none, none, NSeek.start, rfl⟩ (fun i σ H' _ h => h.1.seq hq) ?_ ?_⟩
    · rintro i x T σ H' hi ⟨sm, t, b, z, v4, v5, v6, hN, rfl⟩ hT
      rw [List.getElem?_map] at hi
      cases e : ps[i]? with
      | none => rw [e] at hi; cases hi
      | some pa =>
        rw [e] at hi
        have hy : V.ref pa = x := Option.some.inj hi
        subst hy
        have him : i < m := by have := (List.getElem?_eq_some_iff.mp e).1; omega
        obtain ⟨ar, ea, hf⟩ := paired_at1 hps e
        rw [circL_at him] at ea
        have ea := Option.some.inj ea
        subst ea
        have sm1 : Same H (upd H' T (.tup [vN i, .ref pa])) := same_new2 sm hT
        refine ⟨T, _, rfl, SqT.of upd_same, rfl, _, _, rfl, _, _, rfl, ⟨pa, _, rfl, sqT_same sm1 hf, rfl, _, _, rfl, _, _, rfl, rfl, rfl, ?_⟩⟩
        refine ⟨_, rfl, _, rfl, _, _, rfl, rfl, ?_⟩
        refine ⟨_, rfl, _, rfl, _, _, rfl, rfl, _, rfl, ?_⟩
        refine ite2 (fun c => ?_) (fun c => ?_)
        · have c : b < t + s i := of_decide_eq_true c
          obtain ⟨xs, q, h1, h2, h3⟩ := (LsAt.ext (exN sm1) (fun _ _ => ArcAt.ext (exN sm1)) hL).at_ (circL_at (Nat.mod_lt (i + 1) h0))
          refine ⟨_, rfl, ?_⟩
          refine ⟨_, rfl, _, rfl, _, _, rfl, rfl, _, rfl, p, _, rfl, .inl (sm1.seq hq), _, _, rfl, rfl, ?_, p, _, _, _, rfl, rfl, h1, ?_, q, _, 0, _, rfl, rfl, h3, atI_nat (j := 0) rfl, ?_⟩
          · show (0 : Int) < ((ps.map V.ref).length : Int)
            rw [List.length_map, lps]; omega
          · have e0 : ((i : Int) + 1) % ((ps.map V.ref).length : Int) = (((i + 1) % m : Nat) : Int) := by
              rw [List.length_map, lps, Int.natCast_emod]; rfl
            show atI xs (((i : Int) + 1) % ((ps.map V.ref).length : Int)) = _
            rw [e0]; exact h2
          · exact ⟨sm1, _, _, _, _, _, _, NSeek.more hC hN him c, rfl⟩
        · have c : ¬ t + s i > b := of_decide_eq_false (Bool.not_eq_true _ ▸ c)
          exact ⟨sm1, _, _, _, _, _, _, NSeek.same hN c, rfl⟩
    · rintro σ H' ⟨sm, t, b, z, v4, v5, v6, hN, rfl⟩
      rw [List.length_map, lps] at hN
      exact ⟨_, rfl, k _ z sm (NSeek.nought hC hN)⟩
end
end WK

/-! circle_below, its weight being many * shift - 1 -/
namespace WK
open PySem PySem.Spec PyProof.Rows L2 LamX CS
section
variable {P : Program} {w : World} {K : PySem.W.Frag} {mg : Str → Option Value} {base : Heap} {f : Addr} {fd : FuncData}

-- circle_below: slots 0 arcs, 1 weight, 2 many, 3 dues, 4 cell, 5 steps, 6 last, 7 step, 8 target, 9 shift, 10 circle
abbrev s_circle_below : Stmt := top 12
abbrev n_circle_below : List Str := ["arcs", "weight", "many", "dues", "cell", "steps", "last", "step", "target", "shift", "circle"]
theorem sc_circle_below : FnScope n_circle_below ["arcs", "weight"] (defScope s_circle_below) := ⟨rfl, rfl, rfl, by decide +kernel, rfl, by decide +kernel, by decide +kernel⟩
abbrev aF (l : List (List Arc)) : Nat → List Arc := fun u => l.getD u []
/-- what it promises: potentials, or a circle that does not gain -/
def spCB (K : PySem.W.Frag) (v : V) (n : Int) (H : Hp) (Q : VK) : Prop := ∃ (p : Addr) (AL : List (List Arc)), v = .ref p ∧ LsAt K (ArcsAt K) H p AL ∧ n = (AL.length : Int) ∧ AL.length ≤ 600 ∧ (∀ u, u < AL.length → ∀ t s, (t, s) ∈ aF AL u → t < AL.length) ∧
  (∀ H', Same H H' → (∃ π : Nat → Int, ∀ u, u < AL.length → ∀ t s, (t, s) ∈ aF AL u → π u ≤ π t + ((AL.length : Int) * s - 1)) → Q .non H') ∧
  (∀ H' q m a s, Same H H' → Circ AL.length (aF AL) m a s → m ≤ AL.length → ArcsAt K H' q (circL m a s) → Q (.ref q) H')
/-- the two lists as they stand -/
def CBH (K : PySem.W.Frag) (H H' : Hp) (D3 D5 : Addr) (dues : List Int) (steps : List (Option Arc)) : Prop :=
  Same H H' ∧ H' D3 = some (.lst (dues.map V.int)) ∧ ∃ vs, H' D5 = some (.lst vs) ∧ Paired (StAt K H') vs steps
theorem CBH.grow {H H1 H2 : Hp} {D3 D5 : Addr} {dues : List Int} {steps : List (Option Arc)} (h : CBH K H H1 D3 D5 dues steps) (s : Same H1 H2) : CBH K H H2 D3 D5 dues steps := by
  obtain ⟨h1, h2, vs, h3, h4⟩ := h
  exact ⟨h1.trans s, s _ _ h2, vs, s _ _ h3, Paired.mapP h4 (StAt.imp fun _ _ z => sqT_same s z)⟩
theorem done_eq {d d' : Arc → Prop} (h : ∀ a, d a ↔ d' a) : d = d' := funext fun a => propext (h a)
theorem ls_at {H : Hp} {p : Addr} {AL : List (List Arc)} (h : LsAt K (ArcsAt K) H p AL) {i : Nat} (hi : i < AL.length) : ∃ (xs : List V) (q : Addr), SqL K H p xs ∧ atI xs (i : Int) = some (.ref q) ∧ ArcsAt K H q (aF AL i) := by
  refine h.at_ (a := aF AL i) ?_
  show AL[i]? = some (AL.getD i [])
  rw [getD_el _ _ _ hi, get_some hi]
theorem LsArcs.ext {H H' : Hp} {p : Addr} {AL : List (List Arc)} (s : Same H H') (h : LsAt K (ArcsAt K) H p AL) : LsAt K (ArcsAt K) H' p AL := LsAt.ext (exN s) (fun _ _ => ArcsAt.ext (exN s)) h

theorem circle_body {q : Str} (B : Blt mg) (cdv : Value) (A : Around) (outer : List Env) (s : Shared) (H : Hp) (fl c' : Addr) (v : V) (n : Int) (Q : VK) (hr : Room 1 (A.deeper (envOfC "circle_below" (defScope s_circle_below) s.heap.objs.size f cdv)))
    (act : ∀ p1 p2 p3 : Pos, PE ((cxOf CX0 P w K mg base n_circle_below "circle_below" (defScope s_circle_below) f cdv A outer s H E0).nox) (.Call (.Name "weight" p1) [.Name "shift" p3] [] p2) (tAct fl c' q n 1 9))
    (hco : H c' = some (CodeO c' q)) (h : spCB K v n H Q) :
    ∃ t, PSs ((cxOf CX0 P w K mg base n_circle_below "circle_below" (defScope s_circle_below) f cdv A outer s H E0).nox) (defBody s_circle_below) t ∧ t { nx := fun _ H' => Q .non H', rt := Q } (start n_circle_below [v, .ref fl]) H := by
  obtain ⟨p, AL, rfl, hA, rfl, hlen, htg, kN, kC⟩ := h
  refine ⟨_, (pss_cons (ps_set (i := 2) sc_circle_below.nd rfl (Or.inl rfl) (pe_callB call_len_seq (by rfl) B.len PySem.boot_len (pa_cons (pv 0) pa_nil)))
    (pss_cons (ps_setLc (i := 3) (own := [("cell", 4)]) (g := gName 4) rfl sc_circle_below.nd rfl rfl (sw_true rfl rfl rfl (by decide +kernel)) (pi_list (pv 0)) (blkOk_by (N := n_circle_below) (sc := defScope s_circle_below) (by decide +kernel)) (fun _ _ _ _ _ => (pg_name (i := 4) sc_circle_below.nd rfl (Or.inl rfl))) (fun _ _ _ _ _ => pts_nil) (fun _ _ _ _ _ => pe_int))
    (pss_cons (ps_setLc (i := 5) (own := [("cell", 4)]) (g := gName 4) rfl sc_circle_below.nd rfl rfl (sw_true rfl rfl rfl (by decide +kernel)) (pi_list (pv 0)) (blkOk_by (N := n_circle_below) (sc := defScope s_circle_below) (by decide +kernel)) (fun _ _ _ _ _ => (pg_name (i := 4) sc_circle_below.nd rfl (Or.inl rfl))) (fun _ _ _ _ _ => pts_nil) (fun _ _ _ _ _ => pe_non))
    (pss_cons (ps_set (i := 6) sc_circle_below.nd rfl (Or.inl rfl) pe_non)
    (pss_cons (ps_for PassesOwn.never rfl (pi_range1 (by rfl) B.range (pa_cons (pe_op op_add (pv 2) pe_int) pa_nil)) (pg_name (i := 7) sc_circle_below.nd rfl (Or.inl rfl))
    (pss_cons (ps_set (i := 6) sc_circle_below.nd rfl (Or.inl rfl) pe_non)
      (pss_cons (ps_for PassesOwn.never rfl (pi_range1 (by rfl) B.range (pa_cons (pv 2) pa_nil)) (pg_name (i := 4) sc_circle_below.nd rfl (Or.inl rfl))
      (pss_one (ps_for PassesOwn.never rfl (pi_list (pe_ix (r := rIxL K) ix_list (pv 0) (pv 4) (fun _ _ => rfl))) (pg_tup rfl (pgs_cons (pg_name (i := 8) sc_circle_below.nd rfl (Or.inl rfl)) (pgs_cons (pg_name (i := 9) sc_circle_below.nd rfl (Or.inl rfl)) pgs_nil)))
        (pss_one (ps_if (pt_cmpR op_lt (pe_op op_add (pe_ix (r := rIxL K) ix_list (pv 3) (pv 8) (fun _ _ => rfl)) (act _ _ _)) (pe_ix (r := rIxL K) ix_list (pv 3) (pv 4) (fun _ _ => rfl)) (nomark _))
          (pss_cons (ps_asg (pe_op op_add (pe_ix (r := rIxL K) ix_list (pv 3) (pv 8) (fun _ _ => rfl)) (act _ _ _)) (pg_sub (pv 3) (pv 4) set_list))
            (pss_cons (ps_asg (pe_tup (pa_cons (pv 8) (pa_cons (pv 9) pa_nil))) (pg_sub (pv 5) (pv 4) set_list))
            (pss_one (ps_set (i := 6) sc_circle_below.nd rfl (Or.inl rfl) (pv 4)))))
          pss_nil)))))
      (pss_one (ps_if (pt_cmp (pc_isN (pv 6)) rfl)
      (pss_one (ps_ret pe_non))
      pss_nil)))))
    (pss_cons (ps_for PassesOwn.never rfl (pi_range1 (by rfl) B.range (pa_cons (pv 2) pa_nil)) (pg_name (i := 7) sc_circle_below.nd rfl (Or.inl rfl))
    (pss_one (ps_set (i := 6) sc_circle_below.nd rfl (Or.inl rfl) (pe_ix (r := rIxT K) ix_tup (pe_ix (r := rIxL K) ix_list (pv 5) (pv 6) (fun _ _ => rfl)) pe_int (fun _ _ => rfl)))))
    (pss_cons (ps_set (i := 10) sc_circle_below.nd rfl (Or.inl rfl) (pe_lst pa_nil))
    (pss_cons (ps_set (i := 4) sc_circle_below.nd rfl (Or.inl rfl) (pv 6))
    (pss_one (ps_while PassesOwn.never (pt_val pe_bl)
    (pss_cons (ps_expr (pe_bm PySem.F.plainAttrs_list PySem.F.slot_list_append PySem.F.type_list_append mt_append (pv 10) (pa_cons (pe_tup (pa_cons (pv 4) (pa_cons (pe_ix (r := rIxT K) ix_tup (pe_ix (r := rIxL K) ix_list (pv 5) (pv 4) (fun _ _ => rfl)) pe_int (fun _ _ => rfl)) pa_nil))) pa_nil)))
      (pss_cons (ps_set (i := 4) sc_circle_below.nd rfl (Or.inl rfl) (pe_ix (r := rIxT K) ix_tup (pe_ix (r := rIxL K) ix_list (pv 5) (pv 4) (fun _ _ => rfl)) pe_int (fun _ _ => rfl)))
      (pss_one (ps_if (pt_cmpR op_eq (pv 4) (pv 6) (nomark _))
      (pss_one (ps_ret (pv 10)))
      pss_nil)))))))))))))), ?_⟩
  obtain ⟨ps, hq, hps⟩ := id hA
  have lps : (ps.map V.ref).length = AL.length := by rw [List.length_map, hps.length]
  -- many, dues, steps, last
  refine ⟨_, rfl, p, _, rfl, .inl hq, ?_⟩
  refine ⟨_, rfl, p, rfl, ⟨_, hq⟩, fun D3 hD3 => lc_list (K := K) (a := p) (xs := ps.map V.ref) (fun i H' => Same H H' ∧ H' D3 = some (.lst ((List.replicate i (0 : Int)).map V.int))) ⟨same_new hD3, upd_same⟩ (fun i H' _ h => h.1.seq hq) ?_ ?_⟩
  · rintro i y H' hi ⟨sm, hD⟩
    refine ⟨rfl, _, hD, ?_, same_upd sm hD3, ?_⟩
    · rw [List.length_map, List.length_replicate]
      have := (List.getElem?_eq_some_iff.mp hi).1
      exact line_of (m := 600) (by omega) (by omega)
    · rw [rep_more, List.map_append]; exact upd_same
  rintro H1 ⟨sm1, hH3⟩
  rw [lps] at hH3
  refine ⟨_, rfl, p, rfl, ⟨_, sm1.seq hq⟩, fun D5 hD5 => lc_list (K := K) (a := p) (xs := ps.map V.ref) (fun i H' => Same H1 H' ∧ H' D5 = some (.lst (List.replicate i V.non))) ⟨same_new hD5, upd_same⟩ (fun i H' _ h => (sm1.trans h.1).seq hq) ?_ ?_⟩
  · rintro i y H' hi ⟨sm, hD⟩
    refine ⟨rfl, _, hD, ?_, same_upd sm hD5, ?_⟩
    · rw [List.length_replicate]
      have := (List.getElem?_eq_some_iff.mp hi).1
      exact line_of (m := 600) (by omega) (by omega)
    · rw [rep_more]; exact upd_same
  rintro H2 ⟨sm2, hH5⟩
  rw [lps] at hH5 ⊢
  have h35 : D3 ≠ D5 := fun z => by rw [← z, hH3] at hD5; cases hD5
  have h5 : H D5 = none := sm1.free hD5
  refine ⟨_, rfl, _, _, rfl, rfl, _, rfl, (by show -(2 ^ 62 : Int) ≤ (AL.length : Int) + 1; omega), (by show (AL.length : Int) + 1 < 2 ^ 62; omega), ?_⟩
  have tn : ((AL.length : Int) + 1).toNat = AL.length + 1 := by omega
  rw [tn]
  refine for_range0 (n := AL.length + 1) (fun i σ H' => ∃ (dues : List Int) (steps : List (Option Arc)) (last : Option Nat) (v4 v7 v8 v9 : Option V), CBH K H H' D3 D5 dues steps ∧ BF AL.length (aF AL) (i + 1) 0 (fun _ => False) dues steps none ∧
      (1 ≤ i → ∃ u, last = some u ∧ BF AL.length (aF AL) i AL.length (fun _ => False) dues steps (some u)) ∧
      σ = [some (.ref p), some (.ref fl), some (vN AL.length), some (.ref D3), v4, some (.ref D5), some (vA last), v7, v8, v9, none]) ?_ ?_ ?_
  · exact ⟨List.replicate AL.length 0, List.replicate AL.length none, none, none, none, none, none, ⟨sm1.trans sm2, sm2 _ _ hH3, _, hH5, paired_rep (show StAt K H2 .non none from rfl) _⟩, BF.init, fun h => by omega, rfl⟩
  · -- a round
    rintro i σ H3 hi ⟨dues0, steps0, last0, v4, v7, v8, v9, hC, hB, _, rfl⟩
    refine ⟨_, rfl, _, rfl, (by show -(2 ^ 62 : Int) ≤ (AL.length : Int); omega), (by show (AL.length : Int) < 2 ^ 62; omega), ?_⟩
    refine for_range0 (n := AL.length) (fun c σ H' => ∃ (dues : List Int) (steps : List (Option Arc)) (last : Option Nat) (v4 v7 v8 v9 : Option V), CBH K H H' D3 D5 dues steps ∧ BF AL.length (aF AL) (i + 1) c (fun _ => False) dues steps last ∧
      σ = [some (.ref p), some (.ref fl), some (vN AL.length), some (.ref D3), v4, some (.ref D5), some (vA last), v7, v8, v9, none]) ⟨dues0, steps0, none, v4, _, v8, v9, hC, hB, rfl⟩ ?_ ?_
    · rintro c σ H4 hc ⟨dues1, steps1, last1, v4, v7, v8, v9, hC, hB, rfl⟩
      obtain ⟨xs, ac, a1, a2, a3⟩ := ls_at hA hc
      obtain ⟨as, b1, b2⟩ := id a3
      have las : (as.map V.ref).length = (aF AL c).length := by rw [List.length_map, b2.length]
      refine ⟨_, rfl, _, rfl, p, _, _, _, rfl, rfl, hC.1.seq a1, a2, ac, rfl, ⟨_, hC.1.seq b1⟩, for_list (K := K) (a := ac) (xs := as.map V.ref)
        (fun j σ H' => ∃ (dues : List Int) (steps : List (Option Arc)) (last : Option Nat) (v8 v9 : Option V), CBH K H H' D3 D5 dues steps ∧ BF AL.length (aF AL) (i + 1) c (fun a => a ∈ (aF AL c).take j) dues steps last ∧
          σ = [some (.ref p), some (.ref fl), some (vN AL.length), some (.ref D3), some (vN c), some (.ref D5), some (vA last), v7, v8, v9, none]) ?_ ?_ ?_ ?_⟩
      · refine ⟨dues1, steps1, last1, v8, v9, hC, ?_, rfl⟩
        rw [done_eq (d := fun a => a ∈ (aF AL c).take 0) (d' := fun _ => False) (fun a => by simp)]
        exact hB
      · rintro j σ H' _ ⟨_, _, _, _, _, hC, _⟩
        exact hC.1.seq b1
      · rintro j x σ H5 hj ⟨dues, steps, last, v8, v9, hC, hB, rfl⟩
        rw [List.getElem?_map] at hj
        cases e : as[j]? with
        | none => rw [e] at hj; cases hj
        | some pa =>
          rw [e] at hj
          have hy : V.ref pa = x := Option.some.inj hj
          subst hy
          obtain ⟨⟨t, sf⟩, ea, ra⟩ := paired_at1 b2 e
          have hm : (t, sf) ∈ aF AL c := List.mem_of_getElem? ea
          have ht := htg c hc t sf hm
          have mor : (fun a => a ∈ (aF AL c).take (j + 1)) = fun a => a ∈ (aF AL c).take j ∨ a = (t, sf) := done_eq fun a => by
            rw [take_more ea, List.mem_append, List.mem_singleton]
          rw [mor]
          obtain ⟨sm, hd3, vs, hd5, hvs⟩ := id hC
          have ld : dues.length = AL.length := hB.l1
          have ls : steps.length = AL.length := hB.l2
          have lv : vs.length = AL.length := by rw [hvs.length, ls]
          have hc' := sm _ _ hco
          refine ⟨pa, _, rfl, sqT_same sm ra, rfl, _, _, rfl, _, _, rfl, rfl, ?_⟩
          refine ⟨_, rfl, _, rfl, D3, _, _, _, rfl, rfl, SqL.of hd3, at_int (by omega), sf, rfl, rfl, hc', _, _, rfl, rfl, _, rfl, _, rfl, D3, _, _, _, rfl, rfl, SqL.of hd3, at_int (by omega), _, _, rfl, rfl, _, rfl, ?_⟩
          refine ite2 (fun hlt => ?_) (fun hlt => ?_)
          · have hlt : dues.getD t 0 + ((AL.length : Int) * sf - 1) < dues.getD c 0 := of_decide_eq_true hlt
            refine ⟨_, rfl, _, rfl, D3, _, _, _, rfl, rfl, SqL.of hd3, at_int (by omega), sf, rfl, rfl, hc', _, _, rfl, rfl, _, rfl, _, rfl, D3, _, _, c, rfl, rfl, hd3, ixN_nat (by rw [List.length_map]; omega), ?_⟩
            refine ⟨_, rfl, _, rfl, (by show 2 ≤ sizeLine; decide), fun T hT => ?_⟩
            have hd5a : upd H5 D3 (.lst ((dues.map V.int).set c (.int (dues.getD t 0 + ((AL.length : Int) * sf - 1))))) D5 = some (.lst vs) := (upd_ne (Ne.symm h35)).trans hd5
            have sT := same_new (o := .tup [vN t, .int sf]) hT
            have nT3 : T ≠ D3 := fun z => by rw [z, upd_same] at hT; cases hT
            refine ⟨_, rfl, _, rfl, D5, _, _, c, rfl, rfl, sT _ _ hd5a, ixN_nat (by omega), ?_⟩
            refine ⟨_, rfl, dues.set c (dues.getD t 0 + ((AL.length : Int) * sf - 1)), steps.set c (some (t, sf)), some c, _, _, ⟨?_, ?_, vs.set c (.ref T), upd_same, ?_⟩, hB.upd (by omega) hc hm hlt, rfl⟩
            · exact same_upd ((same_upd sm hD3).trans sT) h5
            · rw [upd_ne h35, sT _ _ upd_same, List.map_set]
            · refine paired_set (F := StAt K _) (a := .ref T) (b := some (t, sf)) ⟨T, rfl, sqT_updL (sT _ _ hd5a) (SqT.of upd_same)⟩ c (Paired.mapP hvs (StAt.imp fun _ _ z => ?_))
              exact sqT_updL (sT _ _ hd5a) (sqT_same sT (sqT_updL hd3 z))
          · have hlt : ¬ dues.getD t 0 + ((AL.length : Int) * sf - 1) < dues.getD c 0 := of_decide_eq_false (Bool.not_eq_true _ ▸ hlt)
            exact ⟨dues, steps, last, _, _, hC, hB.keep hlt, rfl⟩
      · rintro σ H5 ⟨dues, steps, last, v8, v9, hC, hB, rfl⟩
        refine ⟨dues, steps, last, _, v7, v8, v9, hC, hB.cell (fun a ha => ?_), rfl⟩
        rw [las, List.take_length]; exact ha
    · -- the round's end
      rintro σ H4 ⟨dues, steps, last, v4, v7, v8, v9, hC, hB, rfl⟩
      refine ⟨_, rfl, _, rfl, ?_⟩
      cases last with
      | none => exact iteT (kN _ hC.1 (hB.pot htg))
      | some u => exact iteF ⟨dues, steps, some u, _, _, _, _, hC, hB.round, fun _ => ⟨u, rfl, hB⟩, rfl⟩
  · -- all rounds changed something
    rintro σ H3 ⟨dues, steps, last, v4, v7, v8, v9, hC, _, hl, rfl⟩
    obtain ⟨u, rfl, hB⟩ := hl (by omega)
    have R := hB.ring htg
    have ls : steps.length = AL.length := hB.l2
    have h2 := hC.2.2
    obtain ⟨vs, hd5, hvs⟩ := id h2
    have lv : vs.length = AL.length := by rw [hvs.length, ls]
    -- what stands at a cell that has a step
    have stp : ∀ (H' : Hp) (z : Nat), (∀ q xs, SqT K H3 q xs → SqT K H' q xs) → z < AL.length → steps.getD z none ≠ none → ∃ g, atI vs (z : Int) = some (.ref g) ∧ SqT K H' g [vN (pt (fun u => steps.getD u none) z), .int (psh (fun u => steps.getD u none) z)] := fun H' z hs hz hne => by
      have e1 : steps[z]? = some (some (pt (fun u => steps.getD u none) z, psh (fun u => steps.getD u none) z)) := by
        have q := pt_some (p := fun u => steps.getD u none) (u := z) hne
        have q : steps.getD z none = some (pt (fun u => steps.getD u none) z, psh (fun u => steps.getD u none) z) := q
        rw [← q, getD_el _ _ _ (by omega), get_some (by omega)]
      obtain ⟨v, e2, e3⟩ := paired_at hvs e1
      obtain ⟨g, e4, e5⟩ := e3
      subst e4
      exact ⟨g, atI_nat e2, hs _ _ e5⟩
    refine ⟨_, rfl, _, rfl, (by show -(2 ^ 62 : Int) ≤ (AL.length : Int); omega), (by show (AL.length : Int) < 2 ^ 62; omega), ?_⟩
    refine for_range0 (n := AL.length) (fun i σ H' => H' = H3 ∧ ∃ v7, σ = [some (.ref p), some (.ref fl), some (vN AL.length), some (.ref D3), v4, some (.ref D5), some (vN (it (pt fun u => steps.getD u none) u i)), v7, v8, v9, none]) ⟨rfl, v7, rfl⟩ ?_ ?_
    · rintro i σ H' hi ⟨rfl, v7, rfl⟩
      obtain ⟨b1, b2⟩ := R.back i (by omega)
      obtain ⟨g, g1, g2⟩ := stp H' _ (fun _ _ z => z) b1 b2
      exact ⟨_, rfl, _, rfl, D5, _, _, _, rfl, rfl, SqL.of hd5, g1, g, _, 0, _, rfl, rfl, g2, atI_nat (j := 0) rfl, rfl, _, rfl⟩
    · rintro σ H' ⟨rfl, v7, rfl⟩
      -- circle = []; cell = last; while True
      refine ⟨Nat.zero_le _, fun D hD => ⟨_, rfl, ?_⟩⟩
      obtain ⟨q, hq1, hq2, hq3⟩ := R.ring
      generalize hz : it (pt fun u => steps.getD u none) u AL.length = z at hq3
      have Rall := R.all
      have Rc := R.circ
      rw [hz] at Rall Rc
      have n5 : D5 ≠ D := ne_of_none hd5 hD
      refine ⟨fun m σ H'' => ∃ (i : Nat), m = q - i ∧ i < q ∧ (∀ j, 1 ≤ j → j ≤ i → it (pt fun u => steps.getD u none) z j ≠ z) ∧ Same H' (del H'' D) ∧
        (∃ rs : List Addr, H'' D = some (.lst (rs.map V.ref)) ∧ Paired (ArcAt K (del H'' D)) rs (circL i (it (pt fun u => steps.getD u none) z) (fun j => psh (fun u => steps.getD u none) (it (pt fun u => steps.getD u none) z j)))) ∧
        σ = [some (.ref p), some (.ref fl), some (vN AL.length), some (.ref D3), some (vN (it (pt fun u => steps.getD u none) z i)), some (.ref D5), some (vN z), v7, v8, v9, some (.ref D)],
        ⟨q, 0, by omega, by omega, fun j h1 h2 => by omega, same_del hD (same_new hD), ⟨[], upd_same, .nil⟩, rfl⟩, ?_⟩
      rintro m σ H4 ⟨i, em, hi, hno, sm, ⟨rs, hrs, hpr⟩, rfl⟩
      refine ⟨true, rfl, ?_⟩
      refine ⟨fun σ' H' => ∃ m', m' < m ∧ _, fun σ' H' hw => hw, ?_⟩
      obtain ⟨a1, a2⟩ := Rall i
      have sm0 := sm.trans del_same
      obtain ⟨g, g1, g2⟩ := stp H4 _ (fun _ _ z => sqT_same sm0 z) a1 a2
      have h5' := sm0 _ _ hd5
      refine ⟨_, rfl, .inl ⟨rfl, _, SqL.of hrs⟩, _, rfl, _, rfl, _, rfl, D5, _, _, _, rfl, rfl, SqL.of h5', g1, g, _, 1, _, rfl, rfl, g2, atI_nat (j := 1) rfl, (by show 2 ≤ sizeLine; decide), fun T hT => ?_⟩
      have sT := same_new (o := .tup [vN (it (pt fun u => steps.getD u none) z i), .int (psh (fun u => steps.getD u none) (it (pt fun u => steps.getD u none) z i))]) hT
      have nT : T ≠ D := fun e => by rw [e, hrs] at hT; cases hT
      have hD2 := sT _ _ hrs
      have lrs : rs.length = i := by rw [hpr.length]; unfold circL; rw [List.length_map, List.length_range]
      refine ⟨D, _, _, rfl, rfl, hD2, ?_, ?_⟩
      · rw [List.length_map, lrs]
        exact line_of (m := 600) (by omega) (by omega)
      have fin := Filling.more (R := fun H q a => ArcAt K H q a) (a := (it (pt fun u => steps.getD u none) z i, psh (fun u => steps.getD u none) (it (pt fun u => steps.getD u none) z i))) (fun _ _ _ _ s h => sqT_same s h) sm hpr (del_mono sT) (SqT.of ((del_ne nT).trans upd_same))
      have emore : circL i (it (pt fun u => steps.getD u none) z) (fun j => psh (fun u => steps.getD u none) (it (pt fun u => steps.getD u none) z j)) ++ [(it (pt fun u => steps.getD u none) z i, psh (fun u => steps.getD u none) (it (pt fun u => steps.getD u none) z i))] = circL (i + 1) (it (pt fun u => steps.getD u none) z) (fun j => psh (fun u => steps.getD u none) (it (pt fun u => steps.getD u none) z j)) := by
        unfold circL; rw [range_more]
      rw [emore] at fin
      obtain ⟨f1, rs2, f2, f3⟩ := fin
      have sm5 := f1.trans del_same
      have g2' : SqT K (upd (upd H4 T (.tup [vN (it (pt fun u => steps.getD u none) z i), .int (psh (fun u => steps.getD u none) (it (pt fun u => steps.getD u none) z i))])) D (.lst (rs.map V.ref ++ [.ref T]))) g _ := sqT_updL hD2 (sqT_same sT g2)
      refine ⟨_, rfl, _, rfl, D5, _, _, _, rfl, rfl, SqL.of (sm5 _ _ hd5), g1, g, _, 0, _, rfl, rfl, g2', atI_nat (j := 0) rfl, ?_⟩
      refine ⟨_, rfl, _, rfl, rfl, _, rfl, ?_⟩
      refine ite2 (fun c => ?_) (fun c => ?_)
      · have c := of_decide_eq_true c
        have c : it (pt fun u => steps.getD u none) z (i + 1) = z := Option.some.inj (vA_inj (a := some _) (b := some _) c)
        refine ⟨_, rfl, kC _ D (i + 1) _ _ (hC.1.trans sm5) (Rc (i + 1) (by omega) (by omega) c) (by omega) ⟨rs2, SqL.of f2, Paired.mapP f3 fun _ _ z => sqT_same del_same z⟩⟩
      · have c : ¬ it (pt fun u => steps.getD u none) z (i + 1) = z := fun e => by
          refine (of_decide_eq_false (Bool.not_eq_true _ ▸ c)) ?_
          show V.int _ = V.int _
          exact congrArg (fun k : Nat => V.int (k : Int)) e
        have ne : i + 1 ≠ q := fun e => c (by rw [e]; exact hq3)
        refine ⟨q - (i + 1), by omega, i + 1, rfl, by omega, fun j h1 h2 => ?_, f1, ⟨rs2, f2, f3⟩, rfl⟩
        by_cases e : j = i + 1
        · rw [e]; exact c
        · exact hno j h1 (by omega)
end
end WK

/-! rounds_down -/
namespace WK
open PySem PySem.Spec PyProof.Rows L2 LamX CS
section
variable {P : Program} {w : World} {K : PySem.W.Frag} {mg : Str → Option Value} {base : Heap} {f : Addr} {fd : FuncData}

-- rounds_down: slots 0 plain, 1 arcs, 2 noughts, 3 found, 4 cell, 5 step, 6 formula, 7 target, 8 shift, 9 amount
abbrev s_rounds_down : Stmt := top 14
abbrev n_rounds_down : List Str := ["plain", "arcs", "noughts", "found", "cell", "step", "formula", "target", "shift", "amount"]
theorem sc_rounds_down : FnScope n_rounds_down ["plain", "arcs", "noughts"] (defScope s_rounds_down) := ⟨rfl, rfl, rfl, by decide +kernel, rfl, by decide +kernel, by decide +kernel⟩
/-- the arcs but of the noughts; what is told of a cell -/
abbrev cutA (N : List Nat) (A : Nat → List Arc) : Nat → List Arc := fun u => if decide (u ∈ N) then [] else A u
abbrev srcA (N : List Nat) (F : List Fm) : Nat → Option Am := fun u => if decide (u ∈ N) then some (some 0) else amtOf (fF F u)
def spRounds (K : PySem.W.Frag) : Sp := fun vs H Q _ => ∃ (p r o : Addr) (F : List Fm) (AL : List (List Arc)) (N : List Nat), vs = [.ref p, .ref r, .ref o] ∧ ShAt K H p F ∧ LsAt K (ArcsAt K) H r AL ∧ SqL K H o (N.map vN) ∧ F.length ≤ 600 ∧ AL.length = F.length ∧
  (∀ u, u < F.length → ∀ t s, (t, s) ∈ aF AL u → t < F.length) ∧ (∀ u c, amtOf (fF F u) = some c → aF AL u = []) ∧ (∃ π : Nat → Int, ∀ u, u < F.length → ∀ t s, (t, s) ∈ cutA N (aF AL) u → π u ≤ π t + ((F.length : Int) * s - 1)) ∧
  ∀ H' q x, Same H H' → H q = none → H' q = some (.lst (x.map vA)) → x.length = F.length → Sol F.length (cutA N (aF AL)) (srcA N F) (xF x) → Q (.ref q) H'
theorem ok_rounds_down (F : Fun K "rounds_down" "rounds_down" s_rounds_down f fd) (B : Blt mg) (h_at_most : Has P w K mg base 1 "at_most" ["a", "b"] spAtMost) (h_shifted : Has P w K mg base 1 "shifted" ["a", "c"] spShifted) :
    FnOk P w K mg base CX0 2 f fd ["plain", "arcs", "noughts"] (spRounds K) := by
  refine F.ok sc_rounds_down (fun vs H Q E h => ?_) (fun cdv A outer s H vs Q E hr h => ?_)
  · obtain ⟨p, r, o, F, AL, N, rfl, _⟩ := h
    rfl
  · obtain ⟨p, r, o, F, AL, N, rfl, hF, hA, hN, hlen, hAl, htg, hamt, hpot, k⟩ := h
    refine ⟨_, (pss_cons (ps_setLc (i := 3) (own := [("cell", 4)]) (g := gName 4) rfl sc_rounds_down.nd rfl rfl (sw_true rfl rfl rfl (by decide +kernel)) (pi_list (pv 0)) (blkOk_by (N := n_rounds_down) (sc := defScope s_rounds_down) (by decide +kernel)) (fun _ _ _ _ _ => (pg_name (i := 4) sc_rounds_down.nd rfl (Or.inl rfl))) (fun _ _ _ _ _ => pts_nil) (fun _ _ _ _ _ => pe_non))
      (pss_cons (ps_for PassesOwn.never rfl (pi_range1 (by rfl) B.range (pa_cons (pe_op op_add (pe_callB call_len_seq (by rfl) B.len PySem.boot_len (pa_cons (pv 0) pa_nil)) pe_int) pa_nil)) (pg_name (i := 5) sc_rounds_down.nd rfl (Or.inl rfl))
      (pss_one (ps_for PassesOwn.never rfl (pi_enum (by rfl) B.enumerate (pa_cons (pv 0) pa_nil)) (pg_tup rfl (pgs_cons (pg_name (i := 4) sc_rounds_down.nd rfl (Or.inl rfl)) (pgs_cons (pg_name (i := 6) sc_rounds_down.nd rfl (Or.inl rfl)) pgs_nil)))
        (pss_one (ps_if (pt_cmpR (r := rIn K false) op_in_seq (pv 4) (pv 2) (by rfl))
          (pss_one (ps_asg pe_int (pg_sub (pv 3) (pv 4) set_list)))
          (pss_one (ps_if (pt_cmpR op_eq (pe_ix (r := rIxT K) ix_tup (pv 6) pe_int (fun _ _ => rfl)) pe_str (nomark _))
            (pss_one (ps_asg (pe_ix (r := rIxT K) ix_tup (pv 6) pe_int (fun _ _ => rfl)) (pg_sub (pv 3) (pv 4) set_list)))
            (pss_one (ps_for PassesOwn.never rfl (pi_list (pe_ix (r := rIxL K) ix_list (pv 1) (pv 4) (fun _ _ => rfl))) (pg_tup rfl (pgs_cons (pg_name (i := 7) sc_rounds_down.nd rfl (Or.inl rfl)) (pgs_cons (pg_name (i := 8) sc_rounds_down.nd rfl (Or.inl rfl)) pgs_nil)))
              (pss_cons (ps_set (i := 9) sc_rounds_down.nd rfl (Or.inl rfl) (pe_callH h_shifted (hr.mono (by decide)) rfl (pa_cons (pe_ix (r := rIxL K) ix_list (pv 3) (pv 7) (fun _ _ => rfl)) (pa_cons (pv 8) pa_nil))))
                (pss_one (ps_if (pt_val (pe_callH h_at_most (hr.mono (by decide)) rfl (pa_cons (pv 9) (pa_cons (pe_ix (r := rIxL K) ix_list (pv 3) (pv 4) (fun _ _ => rfl)) pa_nil))))
                (pss_one (ps_asg (pv 9) (pg_sub (pv 3) (pv 4) set_list)))
                pss_nil))))))))))))
      (pss_one (ps_ret (pv 3))))), ?_⟩
    obtain ⟨ps, hq, hps⟩ := id hF
    have lps : (ps.map V.ref).length = F.length := by rw [List.length_map, hps.length]
    refine ⟨_, rfl, p, rfl, ⟨_, hq⟩, fun D hD => lc_list (K := K) (a := p) (xs := ps.map V.ref) (fun i H' => Same H H' ∧ H' D = some (.lst (List.replicate i V.non))) ⟨same_new hD, upd_same⟩ (fun i H' _ h => h.1.seq hq) ?_ ?_⟩
    · rintro i y H' hi ⟨sm, hD'⟩
      refine ⟨rfl, _, hD', ?_, same_upd sm hD, ?_⟩
      · rw [List.length_replicate]
        have := (List.getElem?_eq_some_iff.mp hi).1
        exact line_of (m := 600) (by omega) (by omega)
      · rw [rep_more]; exact upd_same
    rintro H1 ⟨sm1, hD1⟩
    rw [lps] at hD1
    have tgt : ∀ u, u < F.length → ∀ t s, (t, s) ∈ cutA N (aF AL) u → t < F.length := fun u hu t s h => by
      have h : (t, s) ∈ (if decide (u ∈ N) then [] else aF AL u) := h
      split at h
      · exact absurd h (by simp)
      · exact htg u hu t s h
    refine ⟨_, rfl, p, _, rfl, .inl (sm1.seq hq), _, _, rfl, rfl, _, rfl, (by show -(2 ^ 62 : Int) ≤ ((ps.map V.ref).length : Int) + 1; omega), (by show ((ps.map V.ref).length : Int) + 1 < 2 ^ 62; omega), ?_⟩
    have tn : (((ps.map V.ref).length : Int) + 1).toNat = F.length + 1 := by omega
    rw [tn]
    refine for_range0 (n := F.length + 1) (fun i σ H' => ∃ (x : List Am) (v4 v5 v6 v7 v8 v9 : Option V), Same H H' ∧ H' D = some (.lst (x.map vA)) ∧ RD F.length (cutA N (aF AL)) (srcA N F) (i + 1) 0 (fun _ => False) x ∧
        (1 ≤ i → RD F.length (cutA N (aF AL)) (srcA N F) i F.length (fun _ => False) x) ∧
        σ = [some (.ref p), some (.ref r), some (.ref o), some (.ref D), v4, v5, v6, v7, v8, v9]) ?_ ?_ ?_
    · refine ⟨List.replicate F.length none, none, none, none, none, none, none, sm1, ?_, RD.init, fun h => by omega, rfl⟩
      rw [hD1, List.map_replicate]; rfl
    · rintro i σ H2 hi ⟨x0, v4, v5, v6, v7, v8, v9, sm2, hD2, hR, _, rfl⟩
      refine ⟨_, rfl, p, _, rfl, sm2.seq hq, for_enum (K := K) (a := p) (xs := ps.map V.ref)
        (fun c σ H' => ∃ (x : List Am) (v4 v5 v6 v7 v8 v9 : Option V), Same H H' ∧ H' D = some (.lst (x.map vA)) ∧ RD F.length (cutA N (aF AL)) (srcA N F) (i + 1) c (fun _ => False) x ∧
          σ = [some (.ref p), some (.ref r), some (.ref o), some (.ref D), v4, v5, v6, v7, v8, v9])
        ⟨x0, v4, _, v6, v7, v8, v9, sm2, hD2, hR, rfl⟩ ?_ ?_ ?_⟩
      · rintro c σ H' _ ⟨_, _, _, _, _, _, _, sm, _⟩
        exact sm.seq hq
      · rintro c y T σ H3 hc ⟨x, v4, v5, v6, v7, v8, v9, sm3, hD3, hR, rfl⟩ hT
        rw [List.getElem?_map] at hc
        cases e : ps[c]? with
        | none => rw [e] at hc; cases hc
        | some g =>
          rw [e] at hc
          have hy : V.ref g = y := Option.some.inj hc
          subst hy
          have hcl : c < F.length := by have := (List.getElem?_eq_some_iff.mp e).1; rw [List.length_map] at lps; omega
          obtain ⟨fm', ea, hf⟩ := paired_at1 hps e
          rw [fF_at hcl] at ea
          have ea := Option.some.inj ea
          subst ea
          have sT := same_new (o := .tup [vN c, .ref g]) hT
          have sm4 := sm3.trans sT
          have hD4 := sT _ _ hD3
          have lx : x.length = F.length := hR.len
          have hf1 := fmS _ _ _ _ sm4 hf
          obtain ⟨ws, hw1, hw2⟩ := word_at hf1
          have ixc : ixN (x.map vA).length (c : Int) = some c := ixN_nat (by rw [List.length_map]; omega)
          refine ⟨T, _, rfl, SqT.of upd_same, rfl, _, _, rfl, _, _, rfl, rfl, ?_⟩
          refine ⟨_, rfl, _, rfl, o, _, rfl, .inl (sm4.seq hN), rfl, flat_nat _, _, rfl, ?_⟩
          rw [inV_nat]
          refine ite2 (fun hin => ?_) (fun hin => ?_)
          · -- a nought
            have hin : decide (c ∈ N) = true := hin
            refine ⟨_, rfl, _, rfl, D, _, _, c, rfl, rfl, hD4, ixc, ?_⟩
            refine ⟨x.set c (some 0), _, _, _, _, _, _, same_upd sm4 hD, ?_, hR.source (by omega) hcl (if_pos hin) (if_pos hin), rfl⟩
            rw [List.map_set]; exact upd_same
          · have hin : ¬ decide (c ∈ N) = true := hin
            have hsrc : srcA N F c = amtOf (fF F c) := if_neg hin
            have hcut : cutA N (aF AL) c = aF AL c := if_neg hin
            refine ⟨_, rfl, g, _, 0, _, rfl, rfl, hw1, hw2, word_scal _ _, _, rfl, ?_⟩
            -- the walk over the arcs
            have arcsWalk : srcA N F c = none → tFor (iList K (tOp (rIxL K) (tVar 1) (tVar 4))) (gTup K 2 (gCons (gName 7) (gCons (gName 8) gNil)))
                (tSeq (tAsg (tCall spShifted [] E0 (tCons (tOp (rIxL K) (tVar 3) (tVar 7)) (tCons (tVar 8) tNil))) (gName 9)) (tIfS (tB (tCall spAtMost [] E0 (tCons (tVar 9) (tCons (tOp (rIxL K) (tVar 3) (tVar 4)) tNil)))) (tAsg (tVar 9) (gSub (tVar 3) (tVar 4) rSetL)) tNext))
                { nx := fun σ' H' => ∃ (x : List Am) (v4 v5 v6 v7 v8 v9 : Option V), Same H H' ∧ H' D = some (.lst (x.map vA)) ∧ RD F.length (cutA N (aF AL)) (srcA N F) (i + 1) (c + 1) (fun _ => False) x ∧
                  σ' = [some (.ref p), some (.ref r), some (.ref o), some (.ref D), v4, v5, v6, v7, v8, v9], rt := Q }
                [some (.ref p), some (.ref r), some (.ref o), some (.ref D), some (vN c), v5, some (.ref g), v7, v8, v9] (upd H3 T (.tup [vN c, .ref g])) := by
              intro hs
              obtain ⟨xs, ac, a1, a2, a3⟩ := ls_at hA (i := c) (by omega)
              obtain ⟨as, b1, b2⟩ := id a3
              have las : (as.map V.ref).length = (aF AL c).length := by rw [List.length_map, b2.length]
              refine ⟨_, rfl, _, rfl, r, _, _, _, rfl, rfl, sm4.seq a1, a2, ac, rfl, ⟨_, sm4.seq b1⟩, for_list (K := K) (a := ac) (xs := as.map V.ref)
                (fun j σ H' => ∃ (x : List Am) (v7 v8 v9 : Option V), Same H H' ∧ H' D = some (.lst (x.map vA)) ∧ RD F.length (cutA N (aF AL)) (srcA N F) (i + 1) c (fun a => a ∈ (aF AL c).take j) x ∧
                  σ = [some (.ref p), some (.ref r), some (.ref o), some (.ref D), some (vN c), v5, some (.ref g), v7, v8, v9]) ?_ ?_ ?_ ?_⟩
              · refine ⟨x, v7, v8, v9, sm4, hD4, ?_, rfl⟩
                rw [done_eq (d := fun a => a ∈ (aF AL c).take 0) (d' := fun _ => False) (fun a => by simp)]
                exact hR
              · rintro j σ H' _ ⟨_, _, _, _, sm, _⟩
                exact sm.seq b1
              · rintro j y σ H5 hj ⟨x, v7, v8, v9, sm5, hD5, hR, rfl⟩
                rw [List.getElem?_map] at hj
                cases e : as[j]? with
                | none => rw [e] at hj; cases hj
                | some pa =>
                  rw [e] at hj
                  have hy : V.ref pa = y := Option.some.inj hj
                  subst hy
                  obtain ⟨⟨t, sf⟩, ea, ra⟩ := paired_at1 b2 e
                  have hm : (t, sf) ∈ aF AL c := List.mem_of_getElem? ea
                  have ht := htg c hcl t sf hm
                  have mor : (fun a => a ∈ (aF AL c).take (j + 1)) = fun a => a ∈ (aF AL c).take j ∨ a = (t, sf) := done_eq fun a => by
                    rw [take_more ea, List.mem_append, List.mem_singleton]
                  rw [mor]
                  have lx : x.length = F.length := hR.len
                  have hR2 := hR.arc (by omega) hcl (by rw [hcut]; exact hm) hs
                  refine ⟨pa, _, rfl, sqT_same sm5 ra, rfl, _, _, rfl, _, _, rfl, rfl, ?_⟩
                  refine ⟨_, rfl, _, rfl, D, _, _, _, rfl, rfl, SqL.of hD5, at_vA (by omega), _, rfl, _, _, rfl, ?_⟩
                  refine ⟨_, rfl, _, rfl, _, rfl, D, _, _, _, rfl, rfl, SqL.of hD5, at_vA (i := c) (by omega), _, _, rfl, _, rfl, ?_⟩
                  refine ite2 (fun hle => ?_) (fun hle => ?_)
                  · have hle := of_decide_eq_true hle
                    refine ⟨_, rfl, _, rfl, _, rfl, D, _, _, c, rfl, rfl, hD5, ixN_nat (by rw [List.length_map]; omega), ?_⟩
                    rw [if_pos hle] at hR2
                    refine ⟨x.set c (sh (x.getD t none) sf), _, _, _, same_upd sm5 hD, ?_, hR2, rfl⟩
                    rw [List.map_set]; exact upd_same
                  · have hle := of_decide_eq_false (Bool.not_eq_true _ ▸ hle)
                    rw [if_neg hle] at hR2
                    exact ⟨x, _, _, _, sm5, hD5, hR2, rfl⟩
              · rintro σ H5 ⟨x, v7, v8, v9, sm5, hD5, hR, rfl⟩
                refine ⟨x, _, _, _, _, _, _, sm5, hD5, hR.cell (fun a ha => ?_) (fun z hz => ?_), rfl⟩
                · rw [hcut] at ha
                  rw [las, List.take_length]; exact ha
                · rw [hs] at hz; cases hz
            generalize hfm : fF F c = fm at hf hf1 hw2 hsrc
            cases fm with
            | amt a =>
              have hf1 : SqT K _ g [.str "amount", vA a] := hf1
              refine iteDT rfl ?_
              refine ⟨_, rfl, g, _, 1, _, rfl, rfl, hf1, atI_nat (j := 1) rfl, _, rfl, _, rfl, D, _, _, c, rfl, rfl, hD4, ixc, ?_⟩
              refine ⟨x.set c a, _, _, _, _, _, _, same_upd sm4 hD, ?_, hR.source (by omega) hcl hsrc (by rw [hcut]; exact hamt c a (by rw [hfm]; rfl)), rfl⟩
              rw [List.map_set]; exact upd_same
            | lst l => exact iteDF n_la (arcsWalk hsrc)
            | gst l => exact iteDF n_ga (arcsWalk hsrc)
            | cnd j a b => exact iteDF n_wa (arcsWalk hsrc)
      · rintro σ H3 ⟨x, v4, v5, v6, v7, v8, v9, sm3, hD3, hR, rfl⟩
        rw [lps] at hR
        exact ⟨x, _, _, _, _, _, _, sm3, hD3, hR.round (by omega), fun _ => hR, rfl⟩
    · rintro σ H2 ⟨x, v4, v5, v6, v7, v8, v9, sm2, hD2, _, hR, rfl⟩
      have hR := hR (by omega)
      exact ⟨_, rfl, k _ D x sm2 hD hD2 hR.len (hR.sol tgt hpot)⟩
end
end WK

/-! least_with -/
namespace WK
open PySem PySem.Spec PyProof.Rows L2 LamX CS
section
variable {P : Program} {w : World} {K : PySem.W.Frag} {mg : Str → Option Value} {base : Heap} {f : Addr} {fd : FuncData}

-- least_with: slots 0 plain, 1 choices, 2 many, 3 arcs, 4 noughts, 5 open_arcs, 6 cell, 7 circle
abbrev s_least_with : Stmt := top 15
abbrev n_least_with : List Str := ["plain", "choices", "many", "arcs", "noughts", "open_arcs", "cell", "circle"]
theorem sc_least_with : FnScope n_least_with ["plain", "choices"] (defScope s_least_with) := ⟨rfl, rfl, rfl, by decide +kernel, rfl, by decide +kernel, by decide +kernel⟩
/-- the table of code objects that the lambda's place is looked up in -/
abbrev tbT (tP : Addr) : List (Addr × Str) := [(tP, ((("least_with" : Str) ++ ".<locals>.") ++ "<lambda>"))]
/-- a plain sheet as it is handed on -/
structure Plain (F : List Fm) : Prop where
  len : F.length ≤ 600
  ok : ∀ u, u < F.length → FmOk F.length (fF F u)
  no : ∀ u, NoCnd (fF F u)
  six : ∀ u, Short (fF F u)
def spLeastWith (K : PySem.W.Frag) (tP : Addr) : Sp := fun vs H Q _ => ∃ (p r : Addr) (F : List Fm) (c : Ch), vs = [.ref p, .ref r] ∧ ShAt K H p F ∧ SqL K H r (c.map vA) ∧ Plain F ∧ c.length = F.length ∧ ChOk F.length (fF F) (chF c) ∧ Tabs (tbT tP) H ∧
  ∀ H' q x, ExtN H H' → Tabs (tbT tP) H' → (∀ ys, H q ≠ some (.lst ys)) → H' q = some (.lst (x.map vA)) → x.length = F.length → LC F.length (fF F) (chF c) (xF x) → Q (.ref q) H'
theorem aF_map (n : Nat) (g : Nat → List Arc) (h : ∀ u, n ≤ u → g u = []) : aF ((List.range n).map g) = g := by
  funext u
  show ((List.range n).map g).getD u [] = g u
  by_cases c : u < n
  · rw [getD_el _ _ _ (by rw [List.length_map, List.length_range]; exact c), List.getElem_map, List.getElem_range]
  · rw [h u (by omega)]
    simp only [List.getD_eq_getElem?_getD]
    rw [List.getElem?_eq_none (by rw [List.length_map, List.length_range]; omega)]; rfl
theorem fF_out {F : List Fm} {u : Nat} (h : F.length ≤ u) : fF F u = .amt none := by
  show F.getD u (.amt none) = .amt none
  simp only [List.getD_eq_getElem?_getD]
  rw [List.getElem?_eq_none h]; rfl
theorem aF_told (F : List Fm) (c : Ch) : aF (toldL F c) = fun u => told (fF F u) (chF c u) := by
  unfold toldL
  refine aF_map F.length _ fun u h => ?_
  show told (fF F u) (chF c u) = []
  rw [fF_out h]; rfl
theorem len_toldL (F : List Fm) (c : Ch) : (toldL F c).length = F.length := by unfold toldL; rw [List.length_map, List.length_range]
theorem ok_least_with {tc tP g : Addr} {fdg : FuncData} (F : Fun K "least_with" "least_with" s_least_with f fd) (hcode : fd.code = .ref tc) (TB : TabB base mg tc tP) (B : Blt mg) (h_told_arcs : Has P w K mg base 2 "told_arcs" ["plain", "choices", "word"] (spTold K))
    (h_rounds_down : Has P w K mg base 2 "rounds_down" ["plain", "arcs", "noughts"] (spRounds K)) (h_nought_cell : Has P w K mg base 1 "nought_cell" ["circle"] (spNought K))
    (Fc : Fun K "circle_below" "circle_below" s_circle_below g fdg) (mgc : mg "circle_below" = some (.ref g)) (bc : Binds K fdg ["arcs", "weight"] []) :
    FnOk P w K mg base CX0 3 f fd ["plain", "choices"] (spLeastWith K tP) := by
  refine fun_okC F hcode sc_least_with (fun vs H Q E h => ?_) (fun A outer s H vs Q E hr h => ?_)
  · obtain ⟨p, r, F, c, rfl, _⟩ := h
    rfl
  · obtain ⟨p, r, F, c, rfl, hF, hc, hpl, hcl, hch, hT, k⟩ := h
    refine ⟨_, (pss_cons (ps_set (i := 2) sc_least_with.nd rfl (Or.inr rfl) (pe_callB call_len_seq (by rfl) B.len PySem.boot_len (pa_cons (pv 0) pa_nil)))
      (pss_cons (ps_set (i := 3) sc_least_with.nd rfl (Or.inr rfl) (pe_callH h_told_arcs (hr.mono (by decide)) rfl (pa_cons (pv 0) (pa_cons (pv 1) (pa_cons pe_str pa_nil)))))
      (pss_cons (ps_set (i := 4) sc_least_with.nd rfl (Or.inr rfl) (pe_lst pa_nil))
      (pss_one (ps_while PassesOwn.never (pt_val pe_bl)
      (pss_cons (ps_setLc (i := 5) (own := [("cell", 6)]) (g := gName 6) rfl sc_least_with.nd rfl rfl (sw_true rfl rfl rfl (by decide +kernel)) (pi_range1 (by rfl) B.range (pa_cons (pv 2) pa_nil)) (blkOk_by (N := n_least_with) (sc := defScope s_least_with) (by decide +kernel)) (fun _ _ _ _ _ => (pg_name (i := 6) sc_least_with.nd rfl (Or.inl rfl))) (fun _ _ _ _ _ => pts_nil) (fun _ _ _ _ _ => (pe_ifExp (pt_cmpR (r := rIn K false) op_in_seq (pv 6) (pv 4) (by rfl)) (pe_lst pa_nil) (pe_ix (r := rIxL K) ix_list (pv 3) (pv 6) (fun _ _ => rfl)))))
        (pss_cons (ps_set (i := 7) sc_least_with.nd rfl (Or.inl rfl) (call_lam (T := tbT tP) (jc := 2) (ip := 9) (sp := spCB K) (pv 5) Fc rfl mgc bc sc_circle_below ⟨rfl, rfl, rfl, by decide +kernel, rfl, rfl, by decide +kernel, by decide +kernel, by decide +kernel⟩ rfl rfl rfl (Or.inl rfl) rfl (Or.inl rfl) (fun cdv A outer s H fl c' v n Q hr act hco h => circle_body B cdv A outer s H fl c' v n Q hr act hco h) TB rfl (List.mem_singleton.mpr rfl) (fun p hp _ => by rw [List.mem_singleton.mp hp] <;> rfl) (hr.mono (by decide)) rfl (fun _ _ _ _ _ _ => rfl)))
        (pss_cons (ps_if (pt_cmp (pc_isN (pv 7)) rfl)
        (pss_one (ps_ret (pe_callH h_rounds_down (hr.mono (by decide)) rfl (pa_cons (pv 0) (pa_cons (pv 3) (pa_cons (pv 4) pa_nil))))))
        pss_nil)
        (pss_one (ps_expr (pe_bm PySem.F.plainAttrs_list PySem.F.slot_list_append PySem.F.type_list_append mt_append (pv 4) (pa_cons (pe_callH h_nought_cell (hr.mono (by decide)) rfl (pa_cons (pv 7) pa_nil)) pa_nil)))))))))))), ?_⟩
    obtain ⟨ps, hq, hps⟩ := id hF
    have lps : (ps.map V.ref).length = F.length := by rw [List.length_map, hps.length]
    have hlen := hpl.len
    refine ⟨_, rfl, p, _, rfl, .inl hq, ?_⟩
    rw [lps]
    refine ⟨_, rfl, _, rfl, p, r, F, c, rfl, hF, hc, hlen, hcl, hpl.no, hch, fun H1 qa s1 _ hA => ?_⟩
    have hT1 := tabs_same hT s1
    refine ⟨Nat.zero_le _, fun DN hDN => ?_⟩
    -- the arcs
    have eA := aF_told F c
    have eL := len_toldL F c
    generalize hAL : toldL F c = AL at hA eA eL
    have tlt : ∀ u, u < F.length → ∀ t s, (t, s) ∈ aF AL u → t < F.length := by rw [eA]; exact told_lt hpl.ok hch
    have out : ∀ u, F.length ≤ u → aF AL u = [] := fun u h => by
      rw [eA]
      show told (fF F u) (chF c u) = []
      rw [fF_out h]; rfl
    refine ⟨fun m σ H' => ∃ (N : List Nat) (v5 v6 v7 : Option V), m = F.length - N.length ∧ N.Nodup ∧ (∀ z, z ∈ N → z < F.length ∧ Nought F.length (aF AL) z) ∧ ExtN H1 H' ∧ Tabs (tbT tP) H' ∧ H' DN = some (.lst (N.map vN)) ∧
      σ = [some (.ref p), some (.ref r), some (vN F.length), some (.ref qa), some (.ref DN), v5, v6, v7],
      ⟨_, [], none, none, none, rfl, List.nodup_nil, fun z h => absurd h (by simp), exN (same_new hDN), tabs_same hT1 (same_new hDN), upd_same, rfl⟩, ?_⟩
    rintro m σ H2 ⟨N, v5, v6, v7, em, hnd, hN, e2, hT2, hD2, rfl⟩
    refine ⟨true, rfl, ?_⟩
    refine ⟨fun σ' H' => ∃ m', m' < m ∧ _, fun σ' H' hw => hw, ?_⟩
    have hA2 : LsAt K (ArcsAt K) H2 qa AL := LsAt.ext e2 (fun _ _ => ArcsAt.ext e2) hA
    have lN : N.length ≤ F.length := nodup_len hnd fun a h => (hN a h).1
    -- open_arcs
    refine ⟨_, rfl, _, rfl, (by show -(2 ^ 62 : Int) ≤ (F.length : Int); omega), (by show (F.length : Int) < 2 ^ 62; omega), fun D hD => lc_range0 (n := F.length)
      (fun i H' => Filling (ArcsAt K) H2 H' D ((List.range i).map (cutA N (aF AL)))) ⟨same_del hD (same_new hD), [], upd_same, .nil⟩ ?_ ?_⟩
    · rintro i H' hi ⟨sm, qs, hDq, hpr⟩
      have sm0 := sm.trans del_same
      have sz : (qs.map V.ref).length < sizeLine := by
        rw [List.length_map, paired_len hpr]
        exact line_of (m := 600) (by omega) (by omega)
      rw [range_more]
      refine ⟨rfl, _, rfl, _, rfl, DN, _, rfl, .inl (SqL.of (sm0 _ _ hD2)), rfl, flat_nat _, _, rfl, ?_⟩
      rw [inV_nat]
      refine ite2 (fun hin => ?_) (fun hin => ?_)
      · have hin : decide (i ∈ N) = true := hin
        refine ⟨Nat.zero_le _, fun l hl => ?_⟩
        have s3 := same_new (o := .lst []) hl
        have nl : l ≠ D := fun z => by rw [z, hDq] at hl; cases hl
        refine ⟨_, s3 _ _ hDq, sz, Filling.more arcsS sm hpr (del_mono s3) ?_⟩
        rw [show cutA N (aF AL) i = [] from if_pos hin]
        exact ⟨[], SqL.of ((del_ne nl).trans upd_same), .nil⟩
      · have hin : ¬ decide (i ∈ N) = true := hin
        obtain ⟨xs, ac, a1, a2, a3⟩ := ls_at hA2 (i := i) (by omega)
        refine ⟨_, rfl, _, rfl, qa, _, _, _, rfl, rfl, sm0.seq a1, a2, _, hDq, sz, Filling.more arcsS sm hpr (fun _ _ h => h) ?_⟩
        rw [show cutA N (aF AL) i = aF AL i from if_neg hin]
        exact arcsS _ _ _ _ sm a3
    rintro H3 fl
    obtain ⟨s3, hO⟩ := fl.done arcsS
    have eO : aF ((List.range F.length).map (cutA N (aF AL))) = cutA N (aF AL) := aF_map _ _ fun u h => by
      show (if decide (u ∈ N) then [] else aF AL u) = []
      rw [out u h]; split <;> rfl
    have lO : ((List.range F.length).map (cutA N (aF AL))).length = F.length := by rw [List.length_map, List.length_range]
    generalize (List.range F.length).map (cutA N (aF AL)) = OL at hO eO lO
    have clt : ∀ u, u < F.length → ∀ t s, (t, s) ∈ cutA N (aF AL) u → t < F.length := fun u hu t s h => by
      have h : (t, s) ∈ (if decide (u ∈ N) then [] else aF AL u) := h
      split at h
      · exact absurd h (by simp)
      · exact tlt u hu t s h
    -- circle_below
    refine ⟨_, rfl, F.length, rfl, ⟨by omega, by omega⟩, tabs_same hT2 s3, fun H4 e4 hT4 => ?_⟩
    have e14 : ExtN H1 H4 := (ext_same e2 s3).trans e4
    have hD4 : H4 DN = some (.lst (N.map vN)) := lst_ext e4 (s3 _ _ hD2)
    refine ⟨D, OL, rfl, LsAt.ext e4 (fun _ _ => ArcsAt.ext e4) hO, by rw [lO], by omega, by rw [eO, lO]; exact clt, ?_, ?_⟩
    · rintro H5 s5 hpot
      rw [eO, lO] at hpot
      refine ⟨_, rfl, _, rfl, iteT ?_⟩
      have e15 := ext_same e14 s5
      refine ⟨_, rfl, _, rfl, _, rfl, p, qa, DN, F, AL, N, rfl, ShAt.ext ((exN s1).trans e15) hF, LsAt.ext e15 (fun _ _ => ArcsAt.ext e15) hA, SqL.of (s5 _ _ hD4), hlen, eL, tlt, fun u a ha => by rw [eA]; exact told_amt (chF c) u a ha, hpot, ?_⟩
      intro H6 q x s6 hq6 hx6 lx hsol
      refine k H6 q x (((exN s1).trans e15).trans (exN s6)) (tabs_same (tabs_same hT4 s5) s6) (fun ys z => by have := lst_ext e15 (s1 _ _ z); rw [hq6] at this; cases this) hx6 lx ?_
      rw [eA] at hsol hpot
      refine lst_of (N := fun u => decide (u ∈ N)) (told_lt hpl.ok hch) (told_amt (chF c)) (told_ne hpl.ok hch) (fun u hu => ?_) hsol hpot
      have := (hN u (of_decide_eq_true hu)).2
      rw [eA] at this
      exact this
    · rintro H5 q m2 a sf s5 hcirc hm hcl
      rw [eO, lO] at hcirc
      refine ⟨_, rfl, _, rfl, iteF ?_⟩
      have hD5 := s5 _ _ hD4
      refine ⟨_, rfl, .inl ⟨rfl, _, SqL.of hD5⟩, _, rfl, q, F.length, m2, cutA N (aF AL), a, sf, rfl, hcirc, hcl, by omega, fun H6 z s6 hz => ?_⟩
      have hD6 := s6 _ _ hD5
      have hzn : z < F.length ∧ z ∉ N := by
        obtain ⟨m3, b, s', _, h0, _, h3, _⟩ := hz
        have q := h3 0
        rw [h0] at q
        refine ⟨q.1, fun hin => ?_⟩
        have q2 : (b (0 + 1), s' 0) ∈ (if decide (z ∈ N) then [] else aF AL z) := q.2
        rw [if_pos (decide_eq_true hin)] at q2
        exact absurd q2 (by simp)
      refine ⟨DN, _, _, rfl, rfl, hD6, ?_, ?_⟩
      · rw [List.length_map]
        exact line_of (m := 600) (by omega) (by omega)
      have hnd2 : (N ++ [z]).Nodup := List.nodup_append.mpr ⟨hnd, by simp, fun a ha b hb => by
        rw [List.mem_singleton] at hb
        rw [hb]; exact fun e => hzn.2 (e ▸ ha)⟩
      have lN2 : (N ++ [z]).length ≤ F.length := nodup_len hnd2 fun a h => by
        rcases List.mem_append.mp h with h | h
        · exact (hN a h).1
        · rw [List.mem_singleton] at h; rw [h]; exact hzn.1
      have lN3 : (N ++ [z]).length = N.length + 1 := by rw [List.length_append]; rfl
      refine ⟨F.length - (N ++ [z]).length, by omega, N ++ [z], _, _, _, rfl, hnd2, fun y hy => ?_, ext_upd (ext_same (ext_same e14 s5) s6) hDN, tabs_updL hD6 (tabs_same (tabs_same hT4 s5) s6), ?_, rfl⟩
      · rcases List.mem_append.mp hy with h | h
        · exact hN y h
        · rw [List.mem_singleton] at h
          rw [h]
          refine ⟨hzn.1, hz.mono fun u a ha => ?_⟩
          have ha : a ∈ (if decide (u ∈ N) then [] else aF AL u) := ha
          split at ha
          · exact absurd ha (by simp)
          · exact ha
      · rw [List.map_append]; exact upd_same
end
end WK

/-! settled_least -/
namespace WK
open PySem PySem.Spec PyProof.Rows L2 LamX CS
section
variable {P : Program} {w : World} {K : PySem.W.Frag} {mg : Str → Option Value} {base : Heap} {f : Addr} {fd : FuncData}

-- settled_least: slots 0 plain, 1 choices, 2 formula, 3 found, 4 better, 5 cell, 6 place, 7 target, 8 shift, 9 amount
abbrev s_settled_least : Stmt := top 16
abbrev n_settled_least : List Str := ["plain", "choices", "formula", "found", "better", "cell", "place", "target", "shift", "amount"]
theorem sc_settled_least : FnScope n_settled_least ["plain"] (defScope s_settled_least) := ⟨rfl, rfl, rfl, by decide +kernel, rfl, by decide +kernel, by decide +kernel⟩
def spSettled (K : PySem.W.Frag) (tP : Addr) : Sp := fun vs H Q _ => ∃ (p : Addr) (F : List Fm), vs = [.ref p] ∧ ShAt K H p F ∧ Plain F ∧ Tabs (tbT tP) H ∧
  ∀ H' t q v x, ExtN H H' → Tabs (tbT tP) H' → (∀ ys, H q ≠ some (.lst ys)) → SqT K H' t [.ref q, v] → SqL K H' q (x.map vA) → x.length = F.length → LP F.length (fF F) (xF x) → Q (.ref t) H'
/-- the first choices -/
def ch0 (fm : Fm) : Option Nat := match fm with
  | .gst _ => some 0
  | _ => none
theorem ch0_ok {F : List Fm} (h : Plain F) : ChOk F.length (fF F) (chF ((List.range F.length).map fun u => ch0 (fF F u))) := fun u hu => by
  have e : chF ((List.range F.length).map fun u => ch0 (fF F u)) u = ch0 (fF F u) := by
    show ((List.range F.length).map fun u => ch0 (fF F u)).getD u none = _
    rw [getD_el _ _ _ (by rw [List.length_map, List.length_range]; exact hu), List.getElem_map, List.getElem_range]
  rw [e]
  have ok := h.ok u hu
  cases ef : fF F u with
  | amt a => rfl
  | lst l => rfl
  | cnd j a k => rfl
  | gst l =>
    rw [ef] at ok
    exact ⟨0, rfl, List.length_pos_iff.mpr ok.1⟩
theorem ok_settled_least {tP : Addr} (F : Fun K "settled_least" "settled_least" s_settled_least f fd) (B : Blt mg) (h_least_with : Has P w K mg base 3 "least_with" ["plain", "choices"] (spLeastWith K tP))
    (h_shifted : Has P w K mg base 1 "shifted" ["a", "c"] spShifted) (h_at_most : Has P w K mg base 1 "at_most" ["a", "b"] spAtMost) (h_flat_value : Has P w K mg base 3 "flat_value" ["formula", "x"] (spFlatValue K)) :
    FnOk P w K mg base CX0 4 f fd ["plain"] (spSettled K tP) := by
  refine F.ok sc_settled_least (fun vs H Q E h => ?_) (fun cdv A outer s H vs Q E hr h => ?_)
  · obtain ⟨p, F, rfl, _⟩ := h
    rfl
  · obtain ⟨p, F, rfl, hF, hpl, hT, k⟩ := h
    refine ⟨_, (pss_cons (ps_setLc (i := 1) (own := [("formula", 2)]) (g := gName 2) rfl sc_settled_least.nd rfl rfl (sw_true rfl rfl rfl (by decide +kernel)) (pi_list (pv 0)) (blkOk_by (N := n_settled_least) (sc := defScope s_settled_least) (by decide +kernel)) (fun _ _ _ _ _ => (pg_name (i := 2) sc_settled_least.nd rfl (Or.inl rfl))) (fun _ _ _ _ _ => pts_nil) (fun _ _ _ _ _ => (pe_ifExp (pt_cmpR op_eq (pe_ix (r := rIxT K) ix_tup (pv 2) pe_int (fun _ _ => rfl)) pe_str (nomark _)) pe_int pe_non)))
      (pss_one (ps_while PassesOwn.never (pt_val pe_bl)
      (pss_cons (ps_set (i := 3) sc_settled_least.nd rfl (Or.inl rfl) (pe_callH h_least_with (hr.mono (by decide)) rfl (pa_cons (pv 0) (pa_cons (pv 1) pa_nil))))
        (pss_cons (ps_set (i := 4) sc_settled_least.nd rfl (Or.inl rfl) (pe_callTy call_list_of (by rfl) B.list (by decide +kernel) (pa_cons (pv 1) pa_nil)))
        (pss_cons (ps_for PassesOwn.never rfl (pi_enum (by rfl) B.enumerate (pa_cons (pv 0) pa_nil)) (pg_tup rfl (pgs_cons (pg_name (i := 5) sc_settled_least.nd rfl (Or.inl rfl)) (pgs_cons (pg_name (i := 2) sc_settled_least.nd rfl (Or.inl rfl)) pgs_nil)))
        (pss_one (ps_if (pt_cmpR op_eq (pe_ix (r := rIxT K) ix_tup (pv 2) pe_int (fun _ _ => rfl)) pe_str (nomark _))
          (pss_one (ps_for PassesOwn.never rfl (pi_enum (by rfl) B.enumerate (pa_cons (pe_ix (r := rIxT K) ix_tup (pv 2) pe_int (fun _ _ => rfl)) pa_nil)) (pg_tup rfl (pgs_cons (pg_name (i := 6) sc_settled_least.nd rfl (Or.inl rfl)) (pgs_cons (pg_tup rfl (pgs_cons (pg_name (i := 7) sc_settled_least.nd rfl (Or.inl rfl)) (pgs_cons (pg_name (i := 8) sc_settled_least.nd rfl (Or.inl rfl)) pgs_nil))) pgs_nil)))
            (pss_cons (ps_set (i := 9) sc_settled_least.nd rfl (Or.inl rfl) (pe_callH h_shifted (hr.mono (by decide)) rfl (pa_cons (pe_ix (r := rIxL K) ix_list (pv 3) (pv 7) (fun _ _ => rfl)) (pa_cons (pv 8) pa_nil))))
              (pss_one (ps_if (PW.pt (pw_and (pt_not (pt_val (pe_callH h_at_most (hr.mono (by decide)) rfl (pa_cons (pv 9) (pa_cons (pe_ix (r := rIxL K) ix_list (pv 3) (pv 5) (fun _ _ => rfl)) pa_nil))))) (pw_and1 (pt_cmpR op_eq (pv 9) (pe_callH h_flat_value (hr.mono (by decide)) rfl (pa_cons (pv 2) (pa_cons (pv 3) pa_nil))) (nomark _)))))
              (pss_one (ps_asg (pv 6) (pg_sub (pv 4) (pv 5) set_list)))
              pss_nil)))))
          pss_nil)))
        (pss_cons (ps_if (pt_cmpR (op_eqD hr.units) (pv 4) (pv 1) (nomark _))
        (pss_one (ps_ret (pe_tup (pa_cons (pv 3) (pa_cons (pv 1) pa_nil)))))
        pss_nil)
        (pss_one (ps_set (i := 1) sc_settled_least.nd rfl (Or.inl rfl) (pv 4)))))))))), ?_⟩
    obtain ⟨ps, hq, hps⟩ := id hF
    have lps : (ps.map V.ref).length = F.length := by rw [List.length_map, hps.length]
    have hlen := hpl.len
    have h6 : ∀ u l, u < F.length → fF F u = .gst l → l.length ≤ 6 := fun u l _ e => by
      have := hpl.six u
      rw [e] at this; exact this
    -- the first choices
    refine ⟨_, rfl, p, rfl, ⟨_, hq⟩, fun D0 hD0 => lc_list (K := K) (a := p) (xs := ps.map V.ref) (fun i H' => Same H H' ∧ H' D0 = some (.lst (((List.range i).map fun u => ch0 (fF F u)).map vA))) ⟨same_new hD0, upd_same⟩ (fun i H' _ h => h.1.seq hq) ?_ ?_⟩
    · rintro i y H' hi ⟨sm, hD'⟩
      rw [List.getElem?_map] at hi
      cases e : ps[i]? with
      | none => rw [e] at hi; cases hi
      | some g =>
        rw [e] at hi
        have hy : V.ref g = y := Option.some.inj hi
        subst hy
        have hil : i < F.length := by have := (List.getElem?_eq_some_iff.mp e).1; rw [List.length_map] at lps; omega
        obtain ⟨fm', ea, hf⟩ := paired_at1 hps e
        rw [fF_at hil] at ea
        have ea := Option.some.inj ea
        subst ea
        obtain ⟨ws, hw1, hw2⟩ := word_at (fmS _ _ _ _ sm hf)
        have sz : (((List.range i).map fun u => ch0 (fF F u)).map vA).length < sizeLine := by
          rw [List.length_map, List.length_map, List.length_range]
          exact line_of (m := 600) (by omega) (by omega)
        rw [range_more, List.map_append]
        refine ⟨rfl, _, rfl, g, _, 0, _, rfl, rfl, hw1, hw2, word_scal _ _, _, rfl, ?_⟩
        generalize fF F i = fm
        cases fm with
        | gst l => exact iteDT rfl ⟨_, hD', sz, same_upd sm hD0, upd_same⟩
        | amt a => exact iteDF n_ag ⟨_, hD', sz, same_upd sm hD0, upd_same⟩
        | lst l => exact iteDF n_lg ⟨_, hD', sz, same_upd sm hD0, upd_same⟩
        | cnd j a c => exact iteDF n_wg ⟨_, hD', sz, same_upd sm hD0, upd_same⟩
    rintro H1 ⟨s1, hD1⟩
    rw [lps] at hD1
    refine ⟨fun m σ H' => ∃ (c : Ch) (q1 : Addr) (v2 v3 v4 v5 v6 v7 v8 v9 : Option V), ExtN H H' ∧ Tabs (tbT tP) H' ∧ H' q1 = some (.lst (c.map vA)) ∧ c.length = F.length ∧ ChOk F.length (fF F) (chF c) ∧
      (m = (allCh F.length).length + 1 ∨ ∃ x0, m = up F.length (fF F) (allCh F.length) x0 ∧ ∀ y, LC F.length (fF F) (chF c) y → Above F.length x0 y) ∧ σ = [some (.ref p), some (.ref q1), v2, v3, v4, v5, v6, v7, v8, v9],
      ⟨_, _, D0, none, none, none, none, none, none, none, none, exN s1, tabs_same hT s1, hD1, by rw [List.length_map, List.length_range], ch0_ok hpl, .inl rfl, rfl⟩, ?_⟩
    rintro m σ H2 ⟨c, q1, v2, v3, v4, v5, v6, v7, v8, v9, e2, hT2, hc2, lc, hch, hm, rfl⟩
    refine ⟨true, rfl, ?_⟩
    refine ⟨fun σ' H' => ∃ m', m' < m ∧ _, fun σ' H' hw => hw, ?_⟩
    -- found
    refine ⟨_, rfl, _, rfl, p, q1, F, c, rfl, ShAt.ext e2 hF, SqL.of hc2, hpl, lc, hch, hT2, fun H3 q3 x e3 hT3 nw3 hx3 lx L => ?_⟩
    have e3' := e2.trans e3
    have hc3 := lst_ext e3 hc2
    have up1 : up F.length (fF F) (allCh F.length) (xF x) < m := by
      rcases hm with e | ⟨x0, e, hab⟩
      · rw [e]
        have := up_le (n := F.length) (P := fF F) (x := xF x) (allCh F.length)
        omega
      · rw [e]
        exact up_lt (mem_allCh lc hch h6) L (hab _ L)
    -- better
    refine ⟨_, rfl, q1, _, rfl, .inl (SqL.of hc3), fun D hD => ?_⟩
    refine ⟨_, rfl, p, _, rfl, SqL_ext (ext_new e3' hD) hq, for_enum (K := K) (a := p) (xs := ps.map V.ref)
      (fun i σ H' => ∃ (b : Ch) (v2 v5 v6 v7 v8 v9 : Option V), Same H3 H' ∧ H' D = some (.lst (b.map vA)) ∧ Bt F.length (fF F) (xF x) c b i 0 ∧ σ = [some (.ref p), some (.ref q1), v2, some (.ref q3), some (.ref D), v5, v6, v7, v8, v9])
      ⟨c, v2, v5, v6, v7, v8, v9, same_new hD, upd_same, Bt.start lc, rfl⟩ ?_ ?_ ?_⟩
    · rintro i σ H' _ ⟨_, _, _, _, _, _, _, sm, _⟩
      exact SqL_ext (ext_same e3' sm) hq
    · rintro i y T σ H4 hi ⟨b, v2, v5, v6, v7, v8, v9, sm4, hD4, hB, rfl⟩ hTn
      rw [List.getElem?_map] at hi
      cases e : ps[i]? with
      | none => rw [e] at hi; cases hi
      | some g =>
        rw [e] at hi
        have hy : V.ref g = y := Option.some.inj hi
        subst hy
        have hil : i < F.length := by have := (List.getElem?_eq_some_iff.mp e).1; rw [List.length_map] at lps; omega
        obtain ⟨fm', ea, hf⟩ := paired_at1 hps e
        rw [fF_at hil] at ea
        have ea := Option.some.inj ea
        subst ea
        have sT := same_new (o := .tup [vN i, .ref g]) hTn
        have sm5 := sm4.trans sT
        have hD5 := sT _ _ hD4
        have e5 := ext_same e3' sm5
        have hf5 := FmAt.ext e5 hf
        obtain ⟨ws, hw1, hw2⟩ := word_at hf5
        refine ⟨T, _, rfl, SqT.of upd_same, rfl, _, _, rfl, _, _, rfl, rfl, ?_⟩
        refine ⟨_, rfl, g, _, 0, _, rfl, rfl, hw1, hw2, word_scal _ _, _, rfl, ?_⟩
        have oki := hpl.ok i hil
        have six := hpl.six i
        cases hfm : fF F i with
        | amt a => exact iteDF n_ag ⟨b, _, _, _, _, _, _, sm5, hD5, hB.cell (fun l h => by rw [hfm] at h; cases h), rfl⟩
        | lst l => exact iteDF n_lg ⟨b, _, _, _, _, _, _, sm5, hD5, hB.cell (fun l h => by rw [hfm] at h; cases h), rfl⟩
        | cnd j a k => exact iteDF n_wg ⟨b, _, _, _, _, _, _, sm5, hD5, hB.cell (fun l h => by rw [hfm] at h; cases h), rfl⟩
        | gst l =>
          rw [hfm] at hf hf5 oki six
          refine iteDT rfl ?_
          obtain ⟨r, hg0, as, b1, b2⟩ := id hf
          have las : (as.map V.ref).length = l.length := by rw [List.length_map, b2.length]
          refine ⟨_, rfl, g, _, 1, _, rfl, rfl, SqT_ext e5 hg0, atI_nat (j := 1) rfl, r, _, rfl, SqL_ext e5 b1, for_enum (K := K) (a := r) (xs := as.map V.ref)
            (fun j σ H' => ∃ (b : Ch) (v6 v7 v8 v9 : Option V), Same H3 H' ∧ H' D = some (.lst (b.map vA)) ∧ Bt F.length (fF F) (xF x) c b i j ∧
              σ = [some (.ref p), some (.ref q1), some (.ref g), some (.ref q3), some (.ref D), some (vN i), v6, v7, v8, v9]) ?_ ?_ ?_ ?_⟩
          · exact ⟨b, v6, v7, v8, v9, sm5, hD5, hB, rfl⟩
          · rintro j σ H' _ ⟨_, _, _, _, _, sm6, _⟩
            exact SqL_ext (ext_same e3' sm6) b1
          · rintro j y T2 σ H6 hj ⟨b, v6, v7, v8, v9, sm6, hD6, hB, rfl⟩ hT2n
            rw [List.getElem?_map] at hj
            cases ej : as[j]? with
            | none => rw [ej] at hj; cases hj
            | some pa =>
              rw [ej] at hj
              have hy : V.ref pa = y := Option.some.inj hj
              subst hy
              obtain ⟨⟨t, sf⟩, eaj, ra⟩ := paired_at1 b2 ej
              have hjl : j < l.length := (List.getElem?_eq_some_iff.mp eaj).1
              have ht : t < x.length := by rw [lx]; exact oki.2 t sf (List.mem_of_getElem? eaj)
              have eav : av l (xF x) j = sh (x.getD t none) sf := by
                unfold av
                have e0 : l.getD j (0, 0) = (t, sf) := by
                  rw [getD_el _ _ _ hjl]
                  exact Option.some.inj ((get_some hjl).symm.trans eaj)
                rw [e0]
              have sT2 := same_new (o := .tup [vN j, .ref pa]) hT2n
              have sm7 := sm6.trans sT2
              have hD7 := sT2 _ _ hD6
              have e7 := ext_same e3' sm7
              have hx7 := sm7 _ _ hx3
              have lb : b.length = F.length := hB.len
              refine ⟨T2, _, rfl, SqT.of upd_same, rfl, _, _, rfl, _, _, rfl, ⟨pa, _, rfl, SqT_ext e7 ra, rfl, _, _, rfl, _, _, rfl, rfl, rfl, ?_⟩⟩
              refine ⟨_, rfl, _, rfl, q3, _, _, _, rfl, rfl, SqL.of hx7, at_vA ht, _, rfl, _, _, rfl, ?_⟩
              refine ⟨_, rfl, _, rfl, _, rfl, q3, _, _, _, rfl, rfl, SqL.of hx7, at_vA (i := i) (by omega), _, _, rfl, _, rfl, ?_⟩
              by_cases hle : le (sh (x.getD t none) sf) (x.getD i none)
              · refine iteNT hle ?_
                exact ⟨b, _, _, _, _, sm7, hD7, hB.skip hfm (fun h => h.1 (by rw [eav]; exact hle)), rfl⟩
              · refine iteND hle ?_
                refine ⟨_, rfl, _, rfl, _, rfl, g, q3, .gst l, x, rfl, FmAt.ext e7 hf, SqL.of hx7, by rw [lx]; exact oki, six, fun H8 s8 => ?_⟩
                have sm8 := sm7.trans s8
                have hD8 := s8 _ _ hD7
                refine ⟨?_, _, rfl, ?_⟩
                · generalize sh (x.getD t none) sf = u1
                  generalize fv (.gst l) (xF x) = u2
                  cases u1 <;> cases u2 <;> rfl
                · refine ite2 (fun heq => ?_) (fun heq => ?_)
                  · refine ⟨_, rfl, _, rfl, _, rfl, D, _, _, i, rfl, rfl, hD8, ixN_nat (by rw [List.length_map]; omega), ?_⟩
                    refine ⟨b.set i (some j), _, _, _, _, same_upd sm8 hD, ?_, hB.take hch L hil hfm hjl (by rw [eav]; exact hle), rfl⟩
                    rw [List.map_set]; exact upd_same
                  · have heq := of_decide_eq_false (Bool.not_eq_true _ ▸ heq)
                    refine ⟨b, _, _, _, _, sm8, hD8, hB.skip hfm (fun h => heq ?_), rfl⟩
                    rw [← eav, h.2]; rfl
          · rintro σ H6 ⟨b, v6, v7, v8, v9, sm6, hD6, hB, rfl⟩
            exact ⟨b, _, _, _, _, _, _, sm6, hD6, hB.cell (fun l' h => by rw [hfm] at h; cases h; rw [las]; exact Nat.le_refl _), rfl⟩
    · rintro σ H4 ⟨b, v2, v5, v6, v7, v8, v9, sm4, hD4, hB, rfl⟩
      rw [lps] at hB
      have hc4 := sm4 _ _ hc3
      refine ⟨_, rfl, _, rfl, _, _, dp_list (SqL.of hD4), dp_list (SqL.of hc4), shaped_dA _, shaped_dA _, _, rfl, ?_⟩
      rw [eqv_lists]
      refine ite2 (fun e => ?_) (fun e => ?_)
      · have e := of_decide_eq_true e
        subst e
        refine ⟨_, rfl, _, rfl, (by show 2 ≤ sizeLine; decide), fun t ht => ?_⟩
        have st := same_new (o := .tup [.ref q3, .ref q1]) ht
        exact k _ t q3 _ x (ext_same (ext_same e3' sm4) st) (tabs_same (tabs_same hT3 sm4) st) (fun ys z => nw3 ys (lst_ext e2 z)) (SqT.of upd_same) (SqL.of (st _ _ (sm4 _ _ hx3))) lx (hB.done hpl.ok (fun u _ => hpl.no u) hch L)
      · have e := of_decide_eq_false (Bool.not_eq_true _ ▸ e)
        refine ⟨_, rfl, _, up1, b, D, _, _, _, _, _, _, _, _, ext_same e3' sm4, tabs_same hT3 sm4, hD4, hB.len, hB.bet.ok hch, .inr ⟨xF x, rfl, fun y hy => hB.above hpl.ok (fun u _ => hpl.no u) lc hch L e hy⟩, rfl⟩
end
end WK

/-! fulfilled, stages_from_below, flat_least -/
namespace WK
open PySem PySem.Spec PyProof.Rows L2 LamX CS
section
variable {P : Program} {w : World} {K : PySem.W.Frag} {mg : Str → Option Value} {base : Heap} {f : Addr} {fd : FuncData}

/-- a flat sheet as the law hands it on -/
structure Flat (F : List Fm) : Prop where
  len : F.length ≤ 600
  ok : ∀ u, u < F.length → FmOk F.length (fF F u)
  six : ∀ u, Short (fF F u)
-- fulfilled: slots 0 flat, 1 x, 2 found, 3 cell
abbrev s_fulfilled : Stmt := top 18
abbrev n_fulfilled : List Str := ["flat", "x", "found", "cell"]
theorem sc_fulfilled : FnScope n_fulfilled ["flat", "x"] (defScope s_fulfilled) := ⟨rfl, rfl, rfl, by decide +kernel, rfl, by decide +kernel, by decide +kernel⟩
def fulL (F : List Fm) (x : List Am) : List Nat := (List.range F.length).filter fun u => ful (fF F) (xF x) u
def spFulfilled (K : PySem.W.Frag) : Sp := fun vs H Q _ => ∃ (p q : Addr) (F : List Fm) (x : List Am), vs = [.ref p, .ref q] ∧ ShAt K H p F ∧ SqL K H q (x.map vA) ∧ x.length = F.length ∧ Flat F ∧
  ∀ H' r, Same H H' → H r = none → H' r = some (.lst ((fulL F x).map vN)) → Q (.ref r) H'
theorem fulL_eq (F : List Fm) (x : List Am) : (conds F).filter (fun u => ful (fF F) (xF x) u) = fulL F x := by
  unfold conds fulL
  rw [List.filter_filter]
  congr 1
  funext u
  unfold ful isC
  cases fF F u <;> simp
theorem ok_fulfilled (F : Fun K "fulfilled" "fulfilled" s_fulfilled f fd) (B : Blt mg) (h_conditions_of : Has P w K mg base 1 "conditions_of" ["flat"] (spConditions K)) (h_at_most : Has P w K mg base 1 "at_most" ["a", "b"] spAtMost) :
    FnOk P w K mg base CX0 2 f fd ["flat", "x"] (spFulfilled K) := by
  refine F.ok sc_fulfilled (fun vs H Q E h => ?_) (fun cdv A outer s H vs Q E hr h => ?_)
  · obtain ⟨p, q, F, x, rfl, _⟩ := h
    rfl
  · obtain ⟨p, q, F, x, rfl, hF, hx, lx, hfl, k⟩ := h
    refine ⟨_, (pss_cons (ps_set (i := 2) sc_fulfilled.nd rfl (Or.inl rfl) (pe_lst pa_nil))
      (pss_cons (ps_for PassesOwn.never rfl (pi_list (pe_callH h_conditions_of (hr.mono (by decide)) rfl (pa_cons (pv 0) pa_nil))) (pg_name (i := 3) sc_fulfilled.nd rfl (Or.inl rfl))
      (pss_one (ps_if (pt_val (pe_callH h_at_most (hr.mono (by decide)) rfl (pa_cons (pe_ix (r := rIxT K) ix_tup (pe_ix (r := rIxL K) ix_list (pv 0) (pv 3) (fun _ _ => rfl)) pe_int (fun _ _ => rfl)) (pa_cons (pe_ix (r := rIxL K) ix_list (pv 1) (pe_ix (r := rIxT K) ix_tup (pe_ix (r := rIxL K) ix_list (pv 0) (pv 3) (fun _ _ => rfl)) pe_int (fun _ _ => rfl)) (fun _ _ => rfl)) pa_nil))))
        (pss_one (ps_expr (pe_bm PySem.F.plainAttrs_list PySem.F.slot_list_append PySem.F.type_list_append mt_append (pv 2) (pa_cons (pv 3) pa_nil))))
        pss_nil)))
      (pss_one (ps_ret (pv 2))))), ?_⟩
    have hlen := hfl.len
    refine ⟨Nat.zero_le _, fun D hD => ?_⟩
    have sD := same_new (o := .lst []) hD
    refine ⟨_, rfl, p, F, rfl, ShAt.ext (exN sD) hF, hlen, fun H1 c s1 hc hc1 => ?_⟩
    have s01 := sD.trans s1
    have hD1 := s1 _ _ (upd_same (H := H) (a := D) (o := .lst []))
    have ncD : c ≠ D := fun z => by rw [z, upd_same] at hc; cases hc
    refine ⟨c, rfl, ⟨_, SqL.of hc1⟩, for_list (K := K) (a := c) (xs := (conds F).map vN)
      (fun i σ H' => ∃ v3, Same H (del H' D) ∧ H' c = some (.lst ((conds F).map vN)) ∧ H' D = some (.lst ((((conds F).take i).filter fun u => ful (fF F) (xF x) u).map vN)) ∧ σ = [some (.ref p), some (.ref q), some (.ref D), v3])
      ⟨none, same_del hD s01, hc1, hD1, rfl⟩ (fun i σ H' _ ⟨_, _, h, _⟩ => SqL.of h) ?_ ?_⟩
    · rintro i y σ H2 hi ⟨v3, sm, hc2, hD2, rfl⟩
      rw [List.getElem?_map] at hi
      cases e : (conds F)[i]? with
      | none => rw [e] at hi; cases hi
      | some u =>
        rw [e] at hi
        have hy : vN u = y := Option.some.inj hi
        subst hy
        have hu : u ∈ conds F := List.mem_of_getElem? e
        have hul : u < F.length := List.mem_range.mp (List.mem_filter.mp hu).1
        have huc : isC (fF F u) = true := (List.mem_filter.mp hu).2
        have sm0 := sm.trans del_same
        obtain ⟨zs, g, z1, z2, z3⟩ := (ShAt.ext (exN sm0) hF).at_ (fF_at hul)
        have ok := hfl.ok u hul
        have hfu : ful (fF F) (xF x) u = match fF F u with
          | .cnd j a _ => decide (le (some a) (xF x j))
          | _ => false := rfl
        have hil := (List.getElem?_eq_some_iff.mp e).1
        have lc : (conds F).length ≤ F.length := filter_len _ _
        have sz : ((((conds F).take i).filter fun u => ful (fF F) (xF x) u).map vN).length < sizeLine := by
          rw [List.length_map]
          have := List.length_filter_le (fun u => ful (fF F) (xF x) u) ((conds F).take i)
          rw [List.length_take] at this
          exact line_of (m := 600) (by omega) (by omega)
        have more : ((conds F).take (i + 1)).filter (fun u => ful (fF F) (xF x) u) = ((conds F).take i).filter (fun u => ful (fF F) (xF x) u) ++ if ful (fF F) (xF x) u = true then [u] else [] := by
          rw [take_more e, List.filter_append]
          congr 1
          by_cases c : ful (fF F) (xF x) u = true
          · rw [if_pos c, List.filter_cons_of_pos c]; rfl
          · rw [if_neg c, List.filter_cons_of_neg c]; rfl
        rw [more, hfu]
        generalize fF F u = fm at z3 ok huc
        cases fm with
        | amt a => cases huc
        | lst l => cases huc
        | gst l => cases huc
        | cnd j a b =>
          have z3 : SqT K H2 g [.str "when", vN j, vN a, vN b] := z3
          refine ⟨_, rfl, _, rfl, p, _, _, _, rfl, rfl, z1, z2, g, _, 2, _, rfl, rfl, z3, atI_nat (j := 2) rfl, ?_⟩
          refine ⟨_, rfl, _, rfl, _, rfl, p, _, _, _, rfl, rfl, z1, z2, g, _, 1, _, rfl, rfl, z3, atI_nat (j := 1) rfl, q, _, _, _, rfl, rfl, sm0.seq hx, at_vA (by rw [lx]; exact ok.1), ?_⟩
          refine ⟨some a, _, rfl, _, rfl, ?_⟩
          refine ite2 (fun c0 => ?_) (fun c0 => ?_)
          · refine ⟨_, rfl, .inl ⟨rfl, _, SqL.of hD2⟩, _, rfl, D, _, _, rfl, rfl, hD2, sz, _, ?_, (upd_ne ncD).trans hc2, ?_, rfl⟩
            · rw [del_upd]; exact sm
            · show upd H2 D _ D = some (.lst ((_ ++ if decide (le (some a) (xF x j)) = true then [u] else []).map vN))
              rw [if_pos c0, List.map_append]; exact upd_same
          · refine ⟨_, sm, hc2, ?_, rfl⟩
            show H2 D = some (.lst ((_ ++ if decide (le (some a) (xF x j)) = true then [u] else []).map vN))
            rw [if_neg c0, List.append_nil]; exact hD2
    · rintro σ H2 ⟨v3, sm, _, hD2, rfl⟩
      rw [List.length_map, List.take_length, fulL_eq] at hD2
      exact ⟨_, rfl, k _ D (sm.trans del_same) hD hD2⟩

/-! ### the stages -/
theorem fF_opL (F : List Fm) (pl : List Nat) : fF (opL F pl) = op (fF F) (fun v => decide (v ∈ pl)) := by
  funext u
  by_cases c : u < F.length
  · show (opL F pl).getD u (.amt none) = _
    unfold opL
    rw [getD_el _ _ _ (by rw [List.length_map, List.length_range]; exact c), List.getElem_map, List.getElem_range]
  · rw [fF_out (by unfold opL; rw [List.length_map, List.length_range]; omega)]
    unfold op
    rw [fF_out (by omega)]
theorem len_opL (F : List Fm) (pl : List Nat) : (opL F pl).length = F.length := by unfold opL; rw [List.length_map, List.length_range]
theorem plain_opL {F : List Fm} (h : Flat F) (pl : List Nat) : Plain (opL F pl) := by
  refine ⟨by rw [len_opL]; exact h.len, ?_, fun u => ?_, fun u => ?_⟩
  · rw [len_opL, fF_opL]; exact op_ok h.ok
  · rw [fF_opL]; exact op_noc u
  · rw [fF_opL]
    have six := h.six u
    unfold op
    cases e : fF F u with
    | amt a => exact trivial
    | lst l => rw [e] at six; exact six
    | gst l => rw [e] at six; exact six
    | cnd j a k =>
      show Short (if decide (u ∈ pl) = true then .gst [(k, 0)] else .amt (some 0))
      split
      · show 1 ≤ 6; omega
      · exact trivial
theorem lp_congr {n : Nat} {P P' : Nat → Fm} {x : Nat → Am} (h : ∀ u, u < n → P u = P' u) (L : LP n P x) : LP n P' x :=
  ⟨fun u hu => by rw [← h u hu]; exact L.fix u hu, fun y hy => L.least y fun u hu => by rw [h u hu]; exact hy u hu⟩
theorem op_congr {F : Nat → Fm} {o o' : Nat → Bool} {u : Nat} (h : o u = o' u) : op F o u = op F o' u := by unfold op; rw [h]
theorem stg_congr {n : Nat} {F : Nat → Fm} {o o' : Nat → Bool} (h : ∀ u, u < n → o u = o' u) (S : Stg n F o) : Stg n F o' :=
  ⟨fun y hy u hu e => S.low y hy u hu ((h u hu).trans e), fun x L u hu e => S.keep x (lp_congr (fun v hv => op_congr (h v hv).symm) L) u hu ((h u hu).trans e)⟩
theorem vN_list (l : List Nat) : l.map vN = (l.map some).map vA := by rw [List.map_map]; rfl
theorem map_some_inj {l m : List Nat} : l.map some = m.map some ↔ l = m :=
  ⟨fun h => by
    have := congrArg (List.map (fun o : Option Nat => o.getD 0)) h
    simpa [List.map_map, Function.comp_def] using this, fun h => by rw [h]⟩
theorem mem_fulL {F : List Fm} {x : List Am} {u : Nat} (hu : u < F.length) : decide (u ∈ fulL F x) = ful (fF F) (xF x) u := by
  unfold fulL
  cases e : ful (fF F) (xF x) u with
  | true => exact decide_eq_true (List.mem_filter.mpr ⟨List.mem_range.mpr hu, e⟩)
  | false => exact decide_eq_false fun h => absurd (List.mem_filter.mp h).2 (by rw [e]; exact Bool.false_ne_true)

/-- x is a solution, and the least -/
structure Best (F : List Fm) (x : List Am) : Prop where
  len : x.length = F.length
  fix : ∀ u, u < F.length → xF x u = fv (fF F u) (xF x)
  least : ∀ y : Nat → Am, (∀ u, u < F.length → y u = fv (fF F u) y) → ∀ u, u < F.length → le (xF x u) (y u)
-- stages_from_below: slots 0 flat, 1 places, 2 stages, 3 x, 4 later
abbrev s_stages_from_below : Stmt := top 19
abbrev n_stages_from_below : List Str := ["flat", "places", "stages", "x", "later"]
theorem sc_stages_from_below : FnScope n_stages_from_below ["flat"] (defScope s_stages_from_below) := ⟨rfl, rfl, rfl, by decide +kernel, rfl, by decide +kernel, by decide +kernel⟩
def spStages (K : PySem.W.Frag) (tP : Addr) : Sp := fun vs H Q _ => ∃ (p : Addr) (F : List Fm), vs = [.ref p] ∧ ShAt K H p F ∧ Flat F ∧ Tabs (tbT tP) H ∧
  ∀ H' st ss t v q x, ExtN H H' → Tabs (tbT tP) H' → SqL K H' st (ss ++ [.ref t]) → SqT K H' t [v, .ref q] → SqL K H' q (x.map vA) → Best F x → Q (.ref st) H'
theorem ok_stages {tP : Addr} (F : Fun K "stages_from_below" "stages_from_below" s_stages_from_below f fd) (B : Blt mg) (h_opened : Has P w K mg base 1 "opened" ["flat", "places"] (spOpened K))
    (h_settled_least : Has P w K mg base 4 "settled_least" ["plain"] (spSettled K tP)) (h_fulfilled : Has P w K mg base 2 "fulfilled" ["flat", "x"] (spFulfilled K)) :
    FnOk P w K mg base CX0 5 f fd ["flat"] (spStages K tP) := by
  refine F.ok sc_stages_from_below (fun vs H Q E h => ?_) (fun cdv A outer s H vs Q E hr h => ?_)
  · obtain ⟨p, F, rfl, _⟩ := h
    rfl
  · obtain ⟨p, F, rfl, hF, hfl, hT, k⟩ := h
    refine ⟨_, (pss_cons (ps_set (i := 1) sc_stages_from_below.nd rfl (Or.inl rfl) (pe_lst pa_nil))
      (pss_cons (ps_set (i := 2) sc_stages_from_below.nd rfl (Or.inl rfl) (pe_lst pa_nil))
      (pss_one (ps_while PassesOwn.never (pt_val pe_bl)
      (pss_cons (ps_set (i := 3) sc_stages_from_below.nd rfl (Or.inl rfl) (pe_ix (r := rIxT K) ix_tup (pe_callH h_settled_least (hr.mono (by decide)) rfl (pa_cons (pe_callH h_opened (hr.mono (by decide)) rfl (pa_cons (pv 0) (pa_cons (pv 1) pa_nil))) pa_nil)) pe_int (fun _ _ => rfl)))
        (pss_cons (ps_expr (pe_bm PySem.F.plainAttrs_list PySem.F.slot_list_append PySem.F.type_list_append mt_append (pv 2) (pa_cons (pe_tup (pa_cons (pv 1) (pa_cons (pv 3) pa_nil))) pa_nil)))
        (pss_cons (ps_set (i := 4) sc_stages_from_below.nd rfl (Or.inl rfl) (pe_callH h_fulfilled (hr.mono (by decide)) rfl (pa_cons (pv 0) (pa_cons (pv 3) pa_nil))))
        (pss_cons (ps_if (pt_cmpR (op_eqD hr.units) (pv 4) (pv 1) (nomark _))
        (pss_one (ps_ret (pv 2)))
        pss_nil)
        (pss_one (ps_set (i := 1) sc_stages_from_below.nd rfl (Or.inl rfl) (pv 4))))))))))), ?_⟩
    have hlen := hfl.len
    refine ⟨Nat.zero_le _, fun D1 hD1 => ⟨Nat.zero_le _, fun DS hDS => ?_⟩⟩
    have s1 := same_new (o := .lst []) hD1
    have s2 := same_new (o := .lst []) hDS
    have hDS0 := s1.free hDS
    refine ⟨fun m σ H' => ∃ (pl : List Nat) (q1 : Addr) (ss : List V) (g : Nat → Bool) (v3 v4 : Option V), m = F.length - pl.length ∧ pl = (List.range F.length).filter g ∧ Stg F.length (fF F) (fun v => decide (v ∈ pl)) ∧ ss.length ≤ pl.length ∧
        ExtN H H' ∧ Tabs (tbT tP) H' ∧ H' q1 = some (.lst (pl.map vN)) ∧ q1 ≠ DS ∧ H' DS = some (.lst ss) ∧ σ = [some (.ref p), some (.ref q1), some (.ref DS), v3, v4],
      ⟨_, [], D1, [], fun _ => false, none, none, rfl, ?_, stg_congr (fun u _ => rfl) Stg.start, Nat.zero_le _, exN (s1.trans s2), tabs_same hT (s1.trans s2), s2 _ _ upd_same, ne_of_none upd_same hDS, upd_same, rfl⟩, ?_⟩
    · exact (List.filter_eq_nil_iff.mpr fun a _ => Bool.false_ne_true).symm
    rintro m σ H2 ⟨pl, q1, ss, g, v3, v4, em, epl, hS, lss, e2, hT2, hq1, nq, hDS2, rfl⟩
    refine ⟨true, rfl, ?_⟩
    refine ⟨fun σ' H' => ∃ m', m' < m ∧ _, fun σ' H' hw => hw, ?_⟩
    have lpl : pl.length ≤ F.length := by rw [epl]; exact filter_len _ _
    have mem : ∀ u, u < F.length → decide (u ∈ pl) = g u := fun u hu => by
      rw [epl]
      cases e : g u with
      | true => exact decide_eq_true (List.mem_filter.mpr ⟨List.mem_range.mpr hu, e⟩)
      | false => exact decide_eq_false fun h => absurd (List.mem_filter.mp h).2 (by rw [e]; exact Bool.false_ne_true)
    -- x = settled_least(opened(flat, places))[0]
    refine ⟨_, rfl, _, rfl, p, q1, F, pl, rfl, ShAt.ext e2 hF, SqL.of hq1, hlen, fun H3 p2 s3 _ hS2 => ?_⟩
    refine ⟨p2, opL F pl, rfl, hS2, plain_opL hfl pl, tabs_same hT2 s3, fun H4 t q v x e4 hT4 nw ht hx lx L => ?_⟩
    rw [len_opL, fF_opL] at L
    rw [len_opL] at lx
    have e24 := (exN s3).trans e4
    have e04 := e2.trans e24
    have hDS4 := lst_ext e24 hDS2
    have hq4 := lst_ext e24 hq1
    refine ⟨t, _, 0, _, rfl, rfl, ht, atI_nat (j := 0) rfl, ?_⟩
    -- stages.append((places, x))
    refine ⟨_, rfl, .inl ⟨rfl, _, SqL.of hDS4⟩, _, rfl, _, rfl, (by show 2 ≤ sizeLine; decide), fun tt htt => ?_⟩
    have s5 := same_new (o := .tup [.ref q1, .ref q]) htt
    have hDS5 := s5 _ _ hDS4
    refine ⟨DS, _, _, rfl, rfl, hDS5, line_of (m := 600) (by omega) (by omega), ?_⟩
    have e06 : ExtN H (upd (upd H4 tt (.tup [.ref q1, .ref q])) DS (.lst (ss ++ [.ref tt]))) := ext_upd (ext_same e04 s5) hDS0
    have hT6 : Tabs (tbT tP) (upd (upd H4 tt (.tup [.ref q1, .ref q])) DS (.lst (ss ++ [.ref tt]))) := tabs_updL hDS5 (tabs_same hT4 s5)
    have hx6 : SqL K (upd (upd H4 tt (.tup [.ref q1, .ref q])) DS (.lst (ss ++ [.ref tt]))) q (x.map vA) := by
      have nqD : q ≠ DS := fun z => nw ss (by rw [z]; exact s3 _ _ hDS2)
      exact sqL_ne nqD (s5.seq hx)
    have ht6 : SqT K (upd (upd H4 tt (.tup [.ref q1, .ref q])) DS (.lst (ss ++ [.ref tt]))) tt [.ref q1, .ref q] := sqT_updL hDS5 (SqT.of upd_same)
    have hq6 : (upd (upd H4 tt (.tup [.ref q1, .ref q])) DS (.lst (ss ++ [.ref tt]))) q1 = some (.lst (pl.map vN)) := (upd_ne nq).trans (s5 _ _ hq4)
    generalize hH6 : upd (upd H4 tt (.tup [.ref q1, .ref q])) DS (.lst (ss ++ [.ref tt])) = H6 at e06 hT6 hx6 ht6 hq6
    have hDS6 : H6 DS = some (.lst (ss ++ [.ref tt])) := by rw [← hH6]; exact upd_same
    -- later = fulfilled(flat, x)
    refine ⟨_, rfl, _, rfl, p, q, F, x, rfl, ShAt.ext e06 hF, hx6, lx, hfl, fun H7 r s7 hr7 hr => ?_⟩
    have hDS7 := s7 _ _ hDS6
    have nr : r ≠ DS := fun z => by rw [z, hDS6] at hr7; cases hr7
    refine ⟨_, rfl, _, rfl, _, _, dp_list (l := (fulL F x).map some) (SqL.of (by rw [← vN_list]; exact hr)), dp_list (l := pl.map some) (SqL.of (by rw [← vN_list]; exact s7 _ _ hq6)), shaped_dA _, shaped_dA _, _, rfl, ?_⟩
    rw [eqv_lists]
    refine ite2 (fun e => ?_) (fun e => ?_)
    · have e := map_some_inj.mp (of_decide_eq_true e)
      refine ⟨_, rfl, k _ DS ss tt _ q x (ext_same e06 s7) (tabs_same hT6 s7) (SqL.of hDS7) (sqT_same s7 ht6) (s7.seq hx6) ⟨lx, hS.last L fun u hu => ?_, fun y hy => hS.le L hy⟩⟩
      have h1 := mem_fulL (F := F) (x := x) hu
      rw [e] at h1
      show ful (fF F) (xF x) u = (isC (fF F u) && decide (u ∈ pl))
      rw [h1]
      unfold ful isC
      cases fF F u <;> simp
    · have e : ¬ fulL F x = pl := fun z => of_decide_eq_false (Bool.not_eq_true _ ▸ e) (map_some_inj.mpr z)
      have lt : pl.length < (fulL F x).length := by
        rcases filter_lt g (fun u => ful (fF F) (xF x) u) (List.range F.length) (fun u hu h => by
          have hu := List.mem_range.mp hu
          exact hS.keep _ L u hu ((mem u hu).trans h)) with h | h
        · exact absurd (by rw [epl]; exact h.symm) e
        · rw [epl]; exact h
      have lt2 : (fulL F x).length ≤ F.length := filter_len _ _
      refine ⟨_, rfl, F.length - (fulL F x).length, by omega, fulL F x, r, ss ++ [.ref tt], _, _, _, rfl, rfl, stg_congr (fun u hu => (mem_fulL hu).symm) (hS.next hfl.ok L), ?_, ext_same e06 s7, tabs_same hT6 s7, hr, nr, hDS7, rfl⟩
      rw [List.length_append]
      show ss.length + 1 ≤ _
      omega

-- flat_least: slots 0 flat
abbrev s_flat_least : Stmt := top 20
abbrev n_flat_least : List Str := ["flat"]
theorem sc_flat_least : FnScope n_flat_least ["flat"] (defScope s_flat_least) := ⟨rfl, rfl, rfl, by decide +kernel, rfl, by decide +kernel, by decide +kernel⟩
def spFlatLeast (K : PySem.W.Frag) (tP : Addr) : Sp := fun vs H Q _ => ∃ (p : Addr) (F : List Fm), vs = [.ref p] ∧ ShAt K H p F ∧ Flat F ∧ Tabs (tbT tP) H ∧
  ∀ H' q x, ExtN H H' → SqL K H' q (x.map vA) → Best F x → Q (.ref q) H'
theorem ok_flat_least {tP : Addr} (F : Fun K "flat_least" "flat_least" s_flat_least f fd) (h_stages_from_below : Has P w K mg base 5 "stages_from_below" ["flat"] (spStages K tP)) : FnOk P w K mg base CX0 6 f fd ["flat"] (spFlatLeast K tP) := by
  refine F.ok sc_flat_least (fun vs H Q E h => ?_) (fun cdv A outer s H vs Q E hr h => ?_)
  · obtain ⟨p, F, rfl, _⟩ := h
    rfl
  · obtain ⟨p, F, rfl, hF, hfl, hT, k⟩ := h
    refine ⟨_, (pss_one (ps_ret (pe_ix (r := rIxT K) ix_tup (pe_ix (r := rIxL K) ix_list (pe_callH h_stages_from_below (hr.mono (by decide)) rfl (pa_cons (pv 0) pa_nil)) (pe_un un_neg pe_int) (fun _ _ => rfl)) pe_int (fun _ _ => rfl)))), ?_⟩
    refine ⟨_, rfl, p, F, rfl, hF, hfl, hT, fun H1 st ss t v q x e1 hT1 hs ht hx hb => ?_⟩
    exact ⟨_, rfl, st, _, _, _, rfl, rfl, hs, atI_last _ _, t, _, 1, _, rfl, rfl, ht, atI_nat (j := 1) rfl, k _ q x e1 hx hb⟩
end
end WK

/-! the law's own making of a flat sheet -/
namespace WK
open PySem PySem.Spec PyProof.Rows L2 LamX CS
theorem line5000 {n : Nat} (h : n ≤ 6000) : n < sizeLine := Nat.lt_of_le_of_lt h (by rw [sizeLine_eq]; decide)
/-- the pool stands at p -/
def Pl (H : Hp) (p : Addr) : Prop := ∃ l : List Int, H p = some (.lst (l.map V.int)) ∧ 2 ≤ l.length ∧ l.length ≤ 5000
/-- only the pool is another one -/
def Ps (p : Addr) (H H' : Hp) : Prop := Same (del H p) (del H' p) ∧ Pl H' p
theorem Ps.trans {p : Addr} {H H1 H2 : Hp} (a : Ps p H H1) (b : Ps p H1 H2) : Ps p H H2 := ⟨a.1.trans b.1, b.2⟩
theorem Ps.grow {p : Addr} {H H1 H2 : Hp} (a : Ps p H H1) (s : Same H1 H2) : Ps p H H2 := by
  obtain ⟨h, l, h1, h2⟩ := a
  exact ⟨h.trans (del_mono s), l, s _ _ h1, h2⟩
theorem Ps.refl {p : Addr} {H : Hp} (h : Pl H p) : Ps p H H := ⟨fun _ _ z => z, h⟩
theorem Pl.same {p : Addr} {H H' : Hp} (h : Pl H p) (s : Same H H') : Pl H' p := by
  obtain ⟨l, h1, h2⟩ := h
  exact ⟨l, s _ _ h1, h2⟩
/-- what stands beside the pool stands on -/
theorem Ps.at_ {p b : Addr} {H H' : Hp} {o : HO} (a : Ps p H H') (h : b ≠ p) (e : H b = some o) : H' b = some o := by
  have := a.1 b o (by rw [del_ne h]; exact e)
  rw [del_ne h] at this; exact this
theorem Pl.ne {p b : Addr} {H : Hp} (h : Pl H p) (e : H b = none) : b ≠ p := by
  obtain ⟨l, h1, _⟩ := h
  intro z
  rw [z, h1] at e; cases e
theorem Ps.free {p b : Addr} {H H' : Hp} (a : Ps p H H') (h : H' b = none) : H b = none := by
  have n := a.2.ne h
  cases e : H b with
  | none => rfl
  | some o => have := a.at_ n e; rw [h] at this; cases this
/-- tuples stand where the pool is changed -/
theorem sqT_ps {K : PySem.W.Frag} {p b : Addr} {H H' : Hp} {xs : List V} (hp : Pl H p) (a : Ps p H H') (h : SqT K H b xs) : SqT K H' b xs := by
  obtain ⟨l, e, _⟩ := hp
  rcases h with (h | ⟨o, h⟩) | h
  · exact .inl (.inl (a.at_ (ne_of h e fun z => nomatch z) h))
  · exact .inl (.inr ⟨o, a.at_ (ne_of h e fun z => nomatch z) h⟩)
  · exact .inr h
section
variable {P : Program} {w : World} {K : PySem.W.Frag} {mg : Str → Option Value} {base : Heap} {f : Addr} {fd : FuncData}

-- _law_pool: slots 0 _law_script, 1 _law_pool_here, 2 _law_state, 3 _law_k, 4 _law_cell, 5 _law_step, 6 _law_one, 7 _law_two
abbrev s_law_pool : Stmt := top 22
abbrev n_law_pool : List Str := ["_law_script", "_law_pool_here", "_law_state", "_law_k", "_law_cell", "_law_step", "_law_one", "_law_two"]
theorem sc_law_pool : FnScope n_law_pool ["_law_script"] (defScope s_law_pool) := ⟨rfl, rfl, rfl, by decide +kernel, rfl, by decide +kernel, by decide +kernel⟩
def spPool (K : PySem.W.Frag) : Sp := fun vs H Q _ => ∃ (a : Addr) (ns : List Int), vs = [.ref a] ∧ SqL K H a (ns.map V.int) ∧ ns.length ≤ 63 ∧ ∀ H' p l, Same H H' → H p = none → H' p = some (.lst (List.map V.int l)) → 300 ≤ l.length → l.length ≤ 4100 → Q (.ref p) H'
theorem ok_law_pool (F : Fun K "_law_pool" "_law_pool" s_law_pool f fd) (B : Blt mg) : FnOk P w K mg base CX0 1 f fd ["_law_script"] (spPool K) := by
  refine F.ok sc_law_pool (fun vs H Q E h => ?_) (fun cdv A outer s H vs Q E hr h => ?_)
  · obtain ⟨a, ns, rfl, _⟩ := h
    rfl
  · obtain ⟨a, ns, rfl, hS, hlen, k⟩ := h
    refine ⟨_, (pss_cons (ps_set (i := 1) sc_law_pool.nd rfl (Or.inl rfl) (pe_lst pa_nil))
      (pss_cons (ps_set (i := 2) sc_law_pool.nd rfl (Or.inl rfl) pe_int)
      (pss_cons (ps_for PassesOwn.never rfl (pi_range1 (by rfl) B.range (pa_cons (pe_callB (call_min2 rfl) (by rfl) B.min (by decide +kernel) (pa_cons (pe_callB call_len_seq (by rfl) B.len PySem.boot_len (pa_cons (pv 0) pa_nil)) (pa_cons pe_int pa_nil))) pa_nil)) (pg_name (i := 3) sc_law_pool.nd rfl (Or.inl rfl))
      (pss_cons (ps_set (i := 4) sc_law_pool.nd rfl (Or.inl rfl) (pe_ix (r := rIxL K) ix_list (pv 0) (pv 3) (fun _ _ => rfl)))
        (pss_cons (ps_set (i := 2) sc_law_pool.nd rfl (Or.inl rfl) (pe_op op_mod (pe_callTy call_int1 (by rfl) B.int (by decide +kernel) (pa_cons (pe_op op_add (pe_op op_add (pe_op op_mul (pv 2) pe_int) (pe_op op_mul (pv 4) pe_int)) (pv 3)) pa_nil)) pe_int))
        (pss_one (ps_if (pt_cmpR op_ge (pv 4) (pe_op op_pow pe_int pe_int) (nomark _))
        (pss_one (ps_for PassesOwn.never rfl (pi_range1 (by rfl) B.range (pa_cons pe_int pa_nil)) (pg_name (i := 5) sc_law_pool.nd rfl (Or.inl rfl))
          (pss_cons (ps_expr (pe_bm PySem.F.plainAttrs_list PySem.F.slot_list_append PySem.F.type_list_append mt_append (pv 1) (pa_cons (pe_op op_mod (pe_callTy call_int1 (by rfl) B.int (by decide +kernel) (pa_cons (pv 4) pa_nil)) pe_int) pa_nil)))
            (pss_one (ps_set (i := 4) sc_law_pool.nd rfl (Or.inl rfl) (pe_op op_fdiv (pv 4) pe_int))))))
        (pss_cons (ps_set (i := 6) sc_law_pool.nd rfl (Or.inl rfl) (pe_op op_mod (pe_callTy call_int1 (by rfl) B.int (by decide +kernel) (pa_cons (pe_op op_add (pe_op op_add (pe_op op_mul (pv 4) pe_int) (pe_op op_mul (pv 3) pe_int)) pe_int) pa_nil)) pe_int))
          (pss_cons (ps_set (i := 7) sc_law_pool.nd rfl (Or.inl rfl) (pe_op op_mod (pe_callTy call_int1 (by rfl) B.int (by decide +kernel) (pa_cons (pe_op op_add (pe_op op_add (pe_op op_mul (pv 6) pe_int) (pe_op op_mul (pv 4) pe_int)) (pv 3)) pa_nil)) pe_int))
          (pss_one (ps_set (i := 1) sc_law_pool.nd rfl (Or.inl rfl) (pe_op op_cat (pv 1) (pe_lst (pa_cons (pe_op op_mod (pe_callTy call_int1 (by rfl) B.int (by decide +kernel) (pa_cons (pe_op op_fdiv (pv 6) pe_int) pa_nil)) pe_int) (pa_cons (pe_op op_mod (pe_callTy call_int1 (by rfl) B.int (by decide +kernel) (pa_cons (pv 7) pa_nil)) pe_int) pa_nil)))))))))))))
      (pss_cons (ps_for PassesOwn.never rfl (pi_range1 (by rfl) B.range (pa_cons pe_int pa_nil)) (pg_name (i := 5) sc_law_pool.nd rfl (Or.inl rfl))
      (pss_cons (ps_set (i := 2) sc_law_pool.nd rfl (Or.inl rfl) (pe_op op_mod (pe_callTy call_int1 (by rfl) B.int (by decide +kernel) (pa_cons (pe_op op_add (pe_op op_mul (pv 2) pe_int) pe_int) pa_nil)) pe_int))
        (pss_one (ps_expr (pe_bm PySem.F.plainAttrs_list PySem.F.slot_list_append PySem.F.type_list_append mt_append (pv 1) (pa_cons (pe_op op_mod (pe_callTy call_int1 (by rfl) B.int (by decide +kernel) (pa_cons (pe_op op_fdiv (pv 2) pe_int) pa_nil)) pe_int) pa_nil))))))
      (pss_one (ps_ret (pv 1))))))), ?_⟩
    have lm : (ns.map V.int).length = ns.length := List.length_map ..
    refine ⟨Nat.zero_le _, fun p0 hp0 => ?_⟩
    have s0 := same_new (o := .lst []) hp0
    have e63 : (if (63 : Int) < ((ns.map V.int).length : Int) then (63 : Int) else ((ns.map V.int).length : Int)) = (ns.length : Int) := by
      rw [lm, if_neg (by omega)]
    refine ⟨_, rfl, a, _, rfl, .inl (s0.seq hS), _, _, rfl, ?_⟩
    rw [e63]
    refine ⟨_, rfl, by omega, by omega, ?_⟩
    refine for_range0 (n := ns.length) (fun i σ H' => ∃ (p : Addr) (l : List Int) (st : Int) (v3 v4 v5 v6 v7 : Option V), Same H H' ∧ H p = none ∧ H' p = some (.lst (l.map V.int)) ∧ l.length ≤ i * 60 ∧ σ = [some (.ref a), some (.ref p), some (.int st), v3, v4, v5, v6, v7])
      ⟨p0, [], 17, none, none, none, none, none, s0, hp0, upd_same, Nat.zero_le _, rfl⟩ ?_ ?_
    · rintro i σ H1 hi ⟨p, l, st, v3, v4, v5, v6, v7, sm, hp, hl, ll, rfl⟩
      refine ⟨_, rfl, _, rfl, a, _, _, _, rfl, rfl, sm.seq hS, at_int hi, ?_⟩
      refine ⟨_, rfl, _, _, rfl, rfl, .inr (by constructor <;> decide), _, rfl, _, _, rfl, rfl, .inr (by constructor <;> decide), _, _, rfl, rfl, _, rfl, _, _, rfl, rfl, .inl ⟨_, rfl, ?_⟩⟩
      refine ⟨_, _, rfl, rfl, (by show (0 : Int) < 2147483647; decide), ?_⟩
      refine ⟨_, rfl, _, _, rfl, rfl, (by show CPow 10 18; unfold CPow; decide), _, _, rfl, rfl, _, rfl, ?_⟩
      refine ite2 (fun _ => ?_) (fun _ => ?_)
      · refine ⟨_, rfl, (by decide), (by decide), ?_⟩
        refine for_range0 (n := 60) (fun j σ H' => ∃ (l : List Int) (c : Int) (v5 : Option V), Same H H' ∧ H' p = some (.lst (l.map V.int)) ∧ l.length ≤ i * 60 + j ∧ σ = [some (.ref a), some (.ref p), some (.int _), some (vN i), some (.int c), v5, v6, v7])
          ⟨l, _, v5, sm, hl, ll, rfl⟩ ?_ ?_
        · rintro j σ H2 hj ⟨l, c, v5, sm, hl, ll, rfl⟩
          refine ⟨_, rfl, .inl ⟨rfl, _, SqL.of hl⟩, _, rfl, .inl ⟨_, rfl, _, _, rfl, rfl, (by show (0 : Int) < 60; decide), ?_⟩⟩
          refine ⟨p, _, _, rfl, rfl, hl, line5000 (by rw [List.length_map]; omega), ?_⟩
          refine ⟨_, rfl, _, _, rfl, rfl, ⟨by decide, by decide⟩, ?_⟩
          refine ⟨l ++ [c % 60], _, _, same_upd sm hp, ?_, by rw [List.length_append]; show l.length + 1 ≤ _; omega, rfl⟩
          rw [List.map_append]; exact upd_same
        · rintro σ H2 ⟨l, c, v5, sm, hl, ll, rfl⟩
          exact ⟨p, l, _, _, _, _, _, _, sm, hp, hl, by omega, rfl⟩
      · refine ⟨_, rfl, _, _, rfl, rfl, .inr (by constructor <;> decide), _, rfl, _, _, rfl, rfl, .inr (by constructor <;> decide), _, _, rfl, rfl, _, _, rfl, rfl, .inl ⟨_, rfl, _, _, rfl, rfl, (by show (0 : Int) < 2147483647; decide), ?_⟩⟩
        refine ⟨_, rfl, _, _, rfl, rfl, .inr (by constructor <;> decide), _, rfl, _, _, rfl, rfl, .inr (by constructor <;> decide), _, _, rfl, rfl, _, rfl, _, _, rfl, rfl, .inl ⟨_, rfl, _, _, rfl, rfl, (by show (0 : Int) < 1000003; decide), ?_⟩⟩
        refine ⟨_, rfl, _, rfl, _, _, rfl, rfl, ⟨by decide, by decide⟩, .inl ⟨_, rfl, _, _, rfl, rfl, (by show (0 : Int) < 60; decide), _, rfl, .inl ⟨_, rfl, _, _, rfl, rfl, (by show (0 : Int) < 60; decide), (by show 2 ≤ sizeLine; decide), fun r hr => ?_⟩⟩⟩
        have s2 : ∀ o, Same H1 (upd H1 r o) := fun o => same_new hr
        refine ⟨p, r, _, _, rfl, rfl, s2 _ _ _ hl, upd_same, Nat.le_of_lt (line5000 (by rw [List.length_map]; show l.length + 2 ≤ 6000; omega)), fun t ht => ?_⟩
        refine ⟨t, l ++ [((ns.getD i 0 * 48271 + (i : Int) * 69621 + 7) % 2147483647) / 11 % 60, ((((ns.getD i 0 * 48271 + (i : Int) * 69621 + 7) % 2147483647) * 16807 + ns.getD i 0 * 31 + (i : Int)) % 1000003) % 60], _, _, _, _, _, _, (sm.trans (s2 _)).trans (same_new ht), (sm.trans (s2 _)).free ht, ?_, by rw [List.length_append]; show l.length + 2 ≤ _; omega, rfl⟩
        rw [List.map_append]; exact upd_same
    · rintro σ H1 ⟨p, l, st, v3, v4, v5, v6, v7, sm, hp, hl, ll, rfl⟩
      refine ⟨_, rfl, (by decide), (by decide), ?_⟩
      refine for_range0 (n := 300) (fun j σ H' => ∃ (l' : List Int) (st : Int) (v5 : Option V), Same H H' ∧ H' p = some (.lst (l'.map V.int)) ∧ l'.length = l.length + j ∧ σ = [some (.ref a), some (.ref p), some (.int st), v3, v4, v5, v6, v7])
        ⟨l, st, v5, sm, hl, rfl, rfl⟩ ?_ ?_
      · rintro j σ H2 hj ⟨l', st, v5, sm, hl, ll', rfl⟩
        refine ⟨_, rfl, _, _, rfl, rfl, .inr (by constructor <;> decide), _, _, rfl, rfl, .inl ⟨_, rfl, _, _, rfl, rfl, (by show (0 : Int) < 2147483647; decide), ?_⟩⟩
        refine ⟨_, rfl, .inl ⟨rfl, _, SqL.of hl⟩, _, rfl, _, _, rfl, rfl, ⟨by decide, by decide⟩, .inl ⟨_, rfl, _, _, rfl, rfl, (by show (0 : Int) < 60; decide), ?_⟩⟩
        refine ⟨p, _, _, rfl, rfl, hl, line5000 (by rw [List.length_map]; omega), ?_⟩
        refine ⟨l' ++ [(st * 48271 + 11) % 2147483647 / 97 % 60], _, _, same_upd sm hp, ?_, by rw [List.length_append]; show l'.length + 1 = _; omega, rfl⟩
        rw [List.map_append]; exact upd_same
      · rintro σ H2 ⟨l', st, v5, sm, hl, ll', rfl⟩
        exact ⟨_, rfl, k _ p l' sm hp hl (by omega) (by omega)⟩

-- _law_stream: slots 0 _law_script
abbrev s_law_stream : Stmt := top 23
abbrev n_law_stream : List Str := ["_law_script"]
theorem sc_law_stream : FnScope n_law_stream ["_law_script"] (defScope s_law_stream) := ⟨rfl, rfl, rfl, by decide +kernel, rfl, by decide +kernel, by decide +kernel⟩
def spStream (K : PySem.W.Frag) : Sp := fun vs H Q _ => ∃ (a : Addr) (ns : List Int), vs = [.ref a] ∧ SqL K H a (ns.map V.int) ∧ ns.length ≤ 63 ∧ ∀ H' p, Same H H' → H p = none → Pl H' p → Q (.ref p) H'
theorem ok_law_stream (F : Fun K "_law_stream" "_law_stream" s_law_stream f fd) (h_law_pool : Has P w K mg base 1 "_law_pool" ["_law_script"] (spPool K)) : FnOk P w K mg base CX0 2 f fd ["_law_script"] (spStream K) := by
  refine F.ok sc_law_stream (fun vs H Q E h => ?_) (fun cdv A outer s H vs Q E hr h => ?_)
  · obtain ⟨a, ns, rfl, _⟩ := h
    rfl
  · obtain ⟨a, ns, rfl, hS, hlen, k⟩ := h
    refine ⟨_, (pss_one (ps_ret (pe_op op_cat (pe_lst (pa_cons pe_int pa_nil)) (pe_callH h_law_pool (hr.mono (by decide)) rfl (pa_cons (pv 0) pa_nil))))), ?_⟩
    refine ⟨(by show 1 ≤ sizeLine; decide), fun r hr => ?_⟩
    have s0 := same_new (o := .lst [.int 0]) hr
    refine ⟨_, rfl, a, ns, rfl, s0.seq hS, hlen, fun H1 p l s1 hp hl l1 l2 => ?_⟩
    refine ⟨r, p, _, _, rfl, rfl, s1 _ _ upd_same, hl, Nat.le_of_lt (line5000 (by rw [List.length_map]; show 1 + l.length ≤ 6000; omega)), fun t ht => ?_⟩
    have s2 := (s0.trans s1)
    exact k _ t (s2.trans (same_new ht)) (s2.free ht) ⟨0 :: l, upd_same, by show 2 ≤ l.length + 1; omega, by show l.length + 1 ≤ 5000; omega⟩

-- _law_pick: slots 0 _law_pool_here, 1 _law_many
abbrev s_law_pick : Stmt := top 24
abbrev n_law_pick : List Str := ["_law_pool_here", "_law_many"]
theorem sc_law_pick : FnScope n_law_pick ["_law_pool_here", "_law_many"] (defScope s_law_pick) := ⟨rfl, rfl, rfl, by decide +kernel, rfl, by decide +kernel, by decide +kernel⟩
def spPick : Sp := fun vs H Q _ => ∃ (p : Addr) (m : Nat), vs = [.ref p, vN m] ∧ Pl H p ∧ 1 ≤ m ∧ ∀ H' r, Ps p H H' → r < m → Q (vN r) H'
theorem ok_law_pick (F : Fun K "_law_pick" "_law_pick" s_law_pick f fd) (B : Blt mg) : FnOk P w K mg base CX0 1 f fd ["_law_pool_here", "_law_many"] spPick := by
  refine F.ok sc_law_pick (fun vs H Q E h => ?_) (fun cdv A outer s H vs Q E hr h => ?_)
  · obtain ⟨p, m, rfl, _⟩ := h
    rfl
  · obtain ⟨p, m, rfl, ⟨l, hl, l1, l2⟩, hm, k⟩ := h
    refine ⟨_, (pss_cons (ps_asg (pe_op op_add pe_int (pe_op op_mod (pe_callTy call_int1 (by rfl) B.int (by decide +kernel) (pa_cons (pe_ix (r := rIxL K) ix_list (pv 0) pe_int (fun _ _ => rfl)) pa_nil)) (pe_op op_sub (pe_callB call_len_seq (by rfl) B.len PySem.boot_len (pa_cons (pv 0) pa_nil)) pe_int))) (pg_sub (pv 0) pe_int set_list))
      (pss_one (ps_ret (pe_op op_mod (pe_callTy call_int1 (by rfl) B.int (by decide +kernel) (pa_cons (pe_ix (r := rIxL K) ix_list (pv 0) (pe_ix (r := rIxL K) ix_list (pv 0) pe_int (fun _ _ => rfl)) (fun _ _ => rfl)) pa_nil)) (pv 1))))), ?_⟩
    have lm : (l.map V.int).length = l.length := List.length_map ..
    have e1 : ((l.map V.int).length : Int) - 1 = ((l.length - 1 : Nat) : Int) := by rw [lm]; omega
    have hpos : (0 : Int) < ((l.length - 1 : Nat) : Int) := by omega
    refine ⟨_, rfl, p, _, 0, _, rfl, rfl, SqL.of hl, at_int (i := 0) (by omega), .inl ⟨_, rfl, _, rfl, p, _, rfl, .inl (SqL.of hl), _, _, rfl, rfl, _, _, rfl, rfl, ?_, _, _, rfl, rfl, ?_⟩⟩
    · show (0 : Int) < ((l.map V.int).length : Int) - 1
      rw [e1]; exact hpos
    have b1 := Int.emod_nonneg (l.getD 0 0) (show ((l.length - 1 : Nat) : Int) ≠ 0 by omega)
    have b2 := Int.emod_lt_of_pos (l.getD 0 0) hpos
    refine ⟨_, rfl, p, _, 0, 0, rfl, rfl, hl, ixN_nat (i := 0) (by omega), ?_⟩
    have ev : 1 + l.getD 0 0 % (((l.map V.int).length : Int) - 1) = ((1 + (l.getD 0 0 % ((l.length - 1 : Nat) : Int)).toNat : Nat) : Int) := by rw [e1]; omega
    have hset : (l.map V.int).set 0 (.int (1 + l.getD 0 0 % (((l.map V.int).length : Int) - 1))) = (l.set 0 ((1 + (l.getD 0 0 % ((l.length - 1 : Nat) : Int)).toNat : Nat) : Int)).map V.int := by
      rw [ev, List.map_set]
    dsimp only
    rw [hset]
    generalize hj : 1 + (l.getD 0 0 % ((l.length - 1 : Nat) : Int)).toNat = j
    have hjl : j < l.length := by omega
    have h0 : (l.set 0 (j : Int)).getD 0 0 = (j : Int) := by
      rw [getD_el _ _ _ (by rw [List.length_set]; omega)]; simp
    have hat := at_int (xs := l.set 0 (j : Int)) (i := 0) (by rw [List.length_set]; omega)
    rw [h0] at hat
    have ll : (l.set 0 (j : Int)).length = l.length := List.length_set ..
    generalize l.set 0 (j : Int) = l' at hat ll
    refine ⟨_, rfl, _, rfl, p, _, 0, _, rfl, rfl, SqL.of upd_same, hat, p, _, _, _, rfl, rfl, SqL.of upd_same, at_int (by omega), .inl ⟨_, rfl, _, rfl, _, _, rfl, rfl, (by show (0 : Int) < (m : Int); omega), ?_⟩⟩
    have c1 := Int.emod_nonneg (l'.getD j 0) (show (m : Int) ≠ 0 by omega)
    have c2 := Int.emod_lt_of_pos (l'.getD j 0) (show (0 : Int) < (m : Int) by omega)
    have er : l'.getD j 0 % (m : Int) = (((l'.getD j 0 % (m : Int)).toNat : Nat) : Int) := by omega
    show Q (.int (l'.getD j 0 % (m : Int))) _
    rw [er]
    exact k _ _ ⟨by rw [del_upd]; exact fun _ _ z => z, l', upd_same, by omega, by omega⟩ (by omega)

-- _law_amount: slots 0 _law_pool_here, 1 _law_kind
abbrev s_law_amount : Stmt := top 25
abbrev n_law_amount : List Str := ["_law_pool_here", "_law_kind"]
theorem sc_law_amount : FnScope n_law_amount ["_law_pool_here"] (defScope s_law_amount) := ⟨rfl, rfl, rfl, by decide +kernel, rfl, by decide +kernel, by decide +kernel⟩
def spAmount : Sp := fun vs H Q _ => ∃ (p : Addr), vs = [.ref p] ∧ Pl H p ∧ ∀ H' (a : Am), Ps p H H' → Q (vA a) H'
theorem ok_law_amount (F : Fun K "_law_amount" "_law_amount" s_law_amount f fd) (B : Blt mg) (h_law_pick : Has P w K mg base 1 "_law_pick" ["_law_pool_here", "_law_many"] spPick) : FnOk P w K mg base CX0 2 f fd ["_law_pool_here"] spAmount := by
  refine F.ok sc_law_amount (fun vs H Q E h => ?_) (fun cdv A outer s H vs Q E hr h => ?_)
  · obtain ⟨p, rfl, _⟩ := h
    rfl
  · obtain ⟨p, rfl, hp, k⟩ := h
    refine ⟨_, (pss_cons (ps_set (i := 1) sc_law_amount.nd rfl (Or.inl rfl) (pe_callH h_law_pick (hr.mono (by decide)) rfl (pa_cons (pv 0) (pa_cons pe_int pa_nil))))
      (pss_cons (ps_if (pt_cmpR op_eq (pv 1) pe_int (nomark _))
      (pss_one (ps_ret pe_non))
      pss_nil)
      (pss_one (ps_ret (pe_ix (r := rIxL K) ix_list (pe_lst (pa_cons (pe_callH h_law_pick (hr.mono (by decide)) rfl (pa_cons (pv 0) (pa_cons pe_int pa_nil))) (pa_cons pe_int pa_nil))) (pe_callTy call_int1 (by rfl) B.int (by decide +kernel) (pa_cons (pe_cmpR op_eq (pv 1) pe_int (nomark _)) pa_nil)) (fun _ _ => rfl)))))), ?_⟩
    refine ⟨_, rfl, p, 10, rfl, hp, by omega, fun H1 r s1 hr1 => ?_⟩
    refine ⟨_, rfl, rfl, _, rfl, ?_⟩
    refine ite2 (fun _ => k H1 none s1) (fun _ => ?_)
    refine ⟨_, rfl, p, 12, rfl, s1.2, by omega, fun H2 r2 s2 hr2 => ⟨(by show 2 ≤ sizeLine; decide), fun q hq => ?_⟩⟩
    have s3 := (s1.trans s2).grow (same_new (o := .lst [vN r2, .int 0]) hq)
    refine ⟨_, rfl, rfl, .inr ⟨_, rfl, q, _, _, _, rfl, rfl, SqL.of upd_same, ?_, k _ (if decide (vN r = V.int 1) = true then some 0 else some r2) s3⟩⟩
    by_cases c : vN r = V.int 1
    · rw [decide_eq_true c]; exact atI_nat (j := 1) rfl
    · rw [decide_eq_false c]; exact atI_nat (j := 0) rfl

-- _law_arcs: slots 0 _law_pool_here, 1 _law_many, 2 _law_size, 3 _law_k
abbrev s_law_arcs : Stmt := top 26
abbrev n_law_arcs : List Str := ["_law_pool_here", "_law_many", "_law_size", "_law_k"]
theorem sc_law_arcs : FnScope n_law_arcs ["_law_pool_here", "_law_many"] (defScope s_law_arcs) := ⟨rfl, rfl, rfl, by decide +kernel, rfl, by decide +kernel, by decide +kernel⟩
def spArcs (K : PySem.W.Frag) : Sp := fun vs H Q _ => ∃ (p : Addr) (m : Nat), vs = [.ref p, vN m] ∧ Pl H p ∧ 1 ≤ m ∧ ∀ H' q (l : List Arc), Ps p H H' → H q = none → ArcsAt K (del H' p) q l → l ≠ [] → l.length ≤ 6 → Q (.ref q) H'
theorem ok_law_arcs (F : Fun K "_law_arcs" "_law_arcs" s_law_arcs f fd) (B : Blt mg) (h_law_pick : Has P w K mg base 1 "_law_pick" ["_law_pool_here", "_law_many"] spPick) : FnOk P w K mg base CX0 2 f fd ["_law_pool_here", "_law_many"] (spArcs K) := by
  refine F.ok sc_law_arcs (fun vs H Q E h => ?_) (fun cdv A outer s H vs Q E hr h => ?_)
  · obtain ⟨p, m, rfl, _⟩ := h
    rfl
  · obtain ⟨p, m, rfl, hp, hm, k⟩ := h
    refine ⟨_, (pss_cons (ps_set (i := 2) sc_law_arcs.nd rfl (Or.inl rfl) (pe_ix (r := rIxL K) ix_list (pe_lst (pa_cons pe_int (pa_cons pe_int (pa_cons pe_int (pa_cons pe_int (pa_cons pe_int (pa_cons pe_int pa_nil))))))) (pe_callH h_law_pick (hr.mono (by decide)) rfl (pa_cons (pv 0) (pa_cons pe_int pa_nil))) (fun _ _ => rfl)))
      (pss_one (ps_ret (pe_lc (own := [("_law_k", 3)]) (g := gName 3) rfl sc_law_arcs.nd  (pi_range1 (by rfl) B.range (pa_cons (pv 2) pa_nil)) (blkOk_by (N := n_law_arcs) (sc := defScope s_law_arcs) (by decide +kernel)) (fun _ _ _ _ _ => (pg_name (i := 3) sc_law_arcs.nd rfl (Or.inl rfl))) (fun _ _ _ _ _ => pts_nil) (fun _ _ _ _ _ => (pe_tup (pa_cons (pe_callH h_law_pick (hr.mono (by decide)) rfl (pa_cons (pv 0) (pa_cons (pv 1) pa_nil))) (pa_cons (pe_ix (r := rIxL K) ix_list (pe_lst (pa_cons pe_int (pa_cons pe_int (pa_cons (pe_un un_neg pe_int) (pa_cons pe_int (pa_cons (pe_un un_neg pe_int) (pa_cons pe_int (pa_cons pe_int (pa_cons pe_int (pa_cons (pe_un un_neg pe_int) (pa_cons pe_int pa_nil))))))))))) (pe_callH h_law_pick (hr.mono (by decide)) rfl (pa_cons (pv 0) (pa_cons pe_int pa_nil))) (fun _ _ => rfl)) pa_nil)))))))), ?_⟩
    refine ⟨(by show 6 ≤ sizeLine; decide), fun q0 hq0 => ?_⟩
    have s0 := (Ps.refl hp).grow (same_new (o := .lst [.int 1, .int 2, .int 2, .int 3, .int 2, .int 6]) hq0)
    refine ⟨_, rfl, p, 6, rfl, s0.2, by omega, fun H1 r s1 hr1 => ?_⟩
    have hq1 := s1.at_ (hp.ne hq0) upd_same
    have hsz : ∃ n : Nat, atI [V.int 1, .int 2, .int 2, .int 3, .int 2, .int 6] (r : Int) = some (vN n) ∧ 1 ≤ n ∧ n ≤ 6 := by
      match r, hr1 with
      | 0, _ => exact ⟨1, rfl, by omega, by omega⟩
      | 1, _ => exact ⟨2, rfl, by omega, by omega⟩
      | 2, _ => exact ⟨2, rfl, by omega, by omega⟩
      | 3, _ => exact ⟨3, rfl, by omega, by omega⟩
      | 4, _ => exact ⟨2, rfl, by omega, by omega⟩
      | 5, _ => exact ⟨6, rfl, by omega, by omega⟩
    obtain ⟨n, hn, n1, n2⟩ := hsz
    have s01 := s0.trans s1
    refine ⟨q0, _, _, _, rfl, rfl, SqL.of hq1, hn, ?_⟩
    refine ⟨_, rfl, _, rfl, (by show -(2 ^ 62 : Int) ≤ (n : Int); omega), (by show (n : Int) < 2 ^ 62; omega), fun D hD => lc_range0 (n := n)
      (fun i H' => ∃ (qs : List Addr) (l : List Arc), Ps p H H' ∧ H' D = some (.lst (qs.map V.ref)) ∧ Paired (ArcAt K H') qs l ∧ l.length = i) ⟨[], [], s01.grow (same_new hD), upd_same, .nil, rfl⟩ ?_ ?_⟩
    · rintro i H2 hi ⟨qs, l, s2, hD2, hpr, ll⟩
      have nD : D ≠ p := s01.2.ne hD
      refine ⟨rfl, _, rfl, _, rfl, p, m, rfl, s2.2, hm, fun H3 t s3 ht => ⟨_, rfl, _, rfl, _, rfl, (by show 10 ≤ sizeLine; decide), fun g hg => ?_⟩⟩
      have s4 := (Ps.refl s3.2).grow (same_new (o := .lst [.int 0, .int 1, .int (-1), .int 2, .int (-2), .int 0, .int 3, .int 1, .int (-4), .int 4]) hg)
      refine ⟨_, rfl, p, 10, rfl, s4.2, by omega, fun H5 c s5 hc => ?_⟩
      have hg5 := s5.at_ (s3.2.ne hg) upd_same
      have hat : ∃ y : Int, atI [V.int 0, .int 1, .int (-1), .int 2, .int (-2), .int 0, .int 3, .int 1, .int (-4), .int 4] (c : Int) = some (.int y) := by
        match c, hc with
        | 0, _ | 1, _ | 2, _ | 3, _ | 4, _ | 5, _ | 6, _ | 7, _ | 8, _ | 9, _ => exact ⟨_, rfl⟩
      obtain ⟨y, hy⟩ := hat
      have s35 := (s3.trans s4).trans s5
      have hD5 := s35.at_ nD hD2
      refine ⟨g, _, _, _, rfl, rfl, SqL.of hg5, hy, (by show 2 ≤ sizeLine; decide), fun T hT => ?_⟩
      have sT := same_new (o := .tup [vN t, .int y]) hT
      have hD6 := sT _ _ hD5
      have lq : qs.length = i := by rw [hpr.length, ll]
      refine ⟨_, hD6, line5000 (by rw [List.length_map]; omega), qs ++ [T], l ++ [(t, y)], ?_, ?_, ?_, by rw [List.length_append, ll]; rfl⟩
      · refine ⟨fun b o e => ?_, ?_⟩
        · have := ((s2.trans s35).grow sT).1 b o e
          by_cases hb : b = D
          · subst hb
            have : H b = some o := del_same _ _ e
            rw [s01.free hD] at this; cases this
          · have nb : b ≠ p := fun z => by rw [z] at e; unfold del at e; rw [if_pos rfl] at e; cases e
            rw [del_ne nb] at this ⊢
            rw [upd_ne hb]; exact this
        · obtain ⟨l', e1, e2⟩ := ((s2.trans s35).grow sT).2
          exact ⟨l', by rw [upd_ne (Ne.symm nD)]; exact e1, e2⟩
      · rw [List.map_append]; exact upd_same
      · refine Paired.snoc (Paired.mapP hpr fun _ _ z => sqT_updL hD6 (sqT_same sT (sqT_ps s2.2 s35 z))) (sqT_updL hD6 (SqT.of upd_same))
    · rintro H2 ⟨qs, l, s2, hD2, hpr, ll⟩
      have nD : D ≠ p := s01.2.ne hD
      obtain ⟨lp, e1, _⟩ := id s2.2
      exact k _ D l s2 (s01.free hD) ⟨qs, SqL.of ((del_ne nD).trans hD2), Paired.mapP hpr fun _ _ z => sqT_del e1 z⟩ (fun z => by rw [z] at ll; simp at ll; omega) (by omega)
end
end WK

/-! _law_flat -/
namespace WK
open PySem PySem.Spec PyProof.Rows L2 LamX CS
/-- what is known of a drawn formula -/
def Pre : Fm → Prop
  | .amt _ => True
  | .lst l => l ≠ [] ∧ l.length ≤ 6
  | .gst l => l ≠ [] ∧ l.length ≤ 6
  | .cnd _ a _ => 1 ≤ a
section
variable {P : Program} {w : World} {K : PySem.W.Frag} {mg : Str → Option Value} {base : Heap} {f : Addr} {fd : FuncData}

-- _law_flat: slots 0 _law_pool_here, 1 _law_most, 2 _law_conditions, 3 _law_many, 4 _law_flat_here, 5 _law_k, 6 _law_kind
abbrev s_law_flat : Stmt := top 27
abbrev n_law_flat : List Str := ["_law_pool_here", "_law_most", "_law_conditions", "_law_many", "_law_flat_here", "_law_k", "_law_kind"]
theorem sc_law_flat : FnScope n_law_flat ["_law_pool_here", "_law_most", "_law_conditions"] (defScope s_law_flat) := ⟨rfl, rfl, rfl, by decide +kernel, rfl, by decide +kernel, by decide +kernel⟩
def spFlat (K : PySem.W.Frag) : Sp := fun vs H Q _ => ∃ (p : Addr), vs = [.ref p, vN 4, .bl true] ∧ Pl H p ∧ ∀ H' q F, Ps p H H' → H q = none → ShAt K (del H' p) q F → 1 ≤ F.length → F.length ≤ 11 → (∀ g, g ∈ F → Pre g) → Q (.ref q) H'
/-- the sheet being filled, the pool being changed -/
def FillP (K : PySem.W.Frag) (p D : Addr) (H H' : Hp) (i : Nat) : Prop :=
  Ps p H H' ∧ ∃ (qs : List Addr) (l : List Fm), H' D = some (.lst (qs.map V.ref)) ∧ Paired (FmAt K (del (del H' p) D)) qs l ∧ l.length = i ∧ ∀ g, g ∈ l → Pre g
theorem FillP.more {p D q : Addr} {H H1 H2 : Hp} {i : Nat} {g : Fm} (hn : H D = none) (nD : D ≠ p) (a : FillP K p D H H1 i) (s : Ps p H1 H2) (h : FmAt K (del (del H2 p) D) q g) (pg : Pre g) :
    ∃ xs : List V, H2 D = some (.lst xs) ∧ xs.length = i ∧ FillP K p D H (upd H2 D (.lst (xs ++ [.ref q]))) (i + 1) := by
  obtain ⟨a1, qs, l, a2, a3, a4, a5⟩ := a
  have lq : qs.length = i := by rw [a3.length, a4]
  refine ⟨_, s.at_ nD a2, by rw [List.length_map, lq], ?_, qs ++ [q], l ++ [g], ?_, ?_, by rw [List.length_append, a4]; rfl, fun z hz => ?_⟩
  · refine ⟨fun b o e => ?_, ?_⟩
    · have := (a1.trans s).1 b o e
      by_cases hb : b = D
      · subst hb
        have z : H b = some o := del_same _ _ e
        rw [hn] at z; cases z
      · have nb : b ≠ p := fun z => by rw [z] at e; unfold del at e; rw [if_pos rfl] at e; cases e
        rw [del_ne nb] at this ⊢
        rw [upd_ne hb]; exact this
    · obtain ⟨l', e1, e2⟩ := (a1.trans s).2
      exact ⟨l', by rw [upd_ne (Ne.symm nD)]; exact e1, e2⟩
  · rw [List.map_append]; exact upd_same
  · have e : del (del (upd H2 D (.lst (qs.map V.ref ++ [.ref q]))) p) D = del (del H2 p) D := by
      funext b
      unfold del
      by_cases hb : b = D
      · rw [if_pos hb, if_pos hb]
      · rw [if_neg hb, if_neg hb, upd_ne hb]
    rw [e]
    exact Paired.snoc (Paired.mapP a3 fun _ _ z => fmS _ _ _ _ (del_mono s.1) z) h
  · rcases List.mem_append.mp hz with e | e
    · exact a5 z e
    · rw [List.mem_singleton] at e; rw [e]; exact pg
theorem kinds (c : Nat) (h : c < 7) : ∃ v : V, atI [V.str "least", .str "greatest", .str "least", .str "greatest", .str "amount", .str "when", .str "greatest"] (c : Int) = some v ∧ (v = .str "least" ∨ v = .str "greatest" ∨ v = .str "amount" ∨ v = .str "when") := by
  match c, h with
  | 0, _ | 2, _ => exact ⟨_, rfl, .inl rfl⟩
  | 1, _ | 3, _ | 6, _ => exact ⟨_, rfl, .inr (.inl rfl)⟩
  | 4, _ => exact ⟨_, rfl, .inr (.inr (.inl rfl))⟩
  | 5, _ => exact ⟨_, rfl, .inr (.inr (.inr rfl))⟩
theorem ok_law_flat (F : Fun K "_law_flat" "_law_flat" s_law_flat f fd) (B : Blt mg) (h_law_pick : Has P w K mg base 1 "_law_pick" ["_law_pool_here", "_law_many"] spPick) (h_law_amount : Has P w K mg base 2 "_law_amount" ["_law_pool_here"] spAmount)
    (h_law_arcs : Has P w K mg base 2 "_law_arcs" ["_law_pool_here", "_law_many"] (spArcs K)) : FnOk P w K mg base CX0 3 f fd ["_law_pool_here", "_law_most", "_law_conditions"] (spFlat K) := by
  refine F.ok sc_law_flat (fun vs H Q E h => ?_) (fun cdv A outer s H vs Q E hr h => ?_)
  · obtain ⟨p, rfl, _⟩ := h
    rfl
  · obtain ⟨p, rfl, hp, k⟩ := h
    refine ⟨_, (pss_cons (ps_set (i := 3) sc_law_flat.nd rfl (Or.inl rfl) (pe_op op_add pe_int (pe_callH h_law_pick (hr.mono (by decide)) rfl (pa_cons (pv 0) (pa_cons (pv 1) pa_nil)))))
      (C8.pss_cut (ps_if (pt_cmpR op_eq (pe_callH h_law_pick (hr.mono (by decide)) rfl (pa_cons (pv 0) (pa_cons pe_int pa_nil))) pe_int (nomark _))
      (pss_one (ps_set (i := 3) sc_law_flat.nd rfl (Or.inl rfl) (pe_op op_add (pv 1) pe_int)))
      pss_nil)
      (pss_cons (ps_set (i := 4) sc_law_flat.nd rfl (Or.inl rfl) (pe_lst pa_nil))
      (pss_cons (ps_for PassesOwn.never rfl (pi_range1 (by rfl) B.range (pa_cons (pv 3) pa_nil)) (pg_name (i := 5) sc_law_flat.nd rfl (Or.inl rfl))
      (pss_cons (ps_set (i := 6) sc_law_flat.nd rfl (Or.inl rfl) (pe_ix (r := rIxL K) ix_list (pe_lst (pa_cons pe_str (pa_cons pe_str (pa_cons pe_str (pa_cons pe_str (pa_cons pe_str (pa_cons pe_str (pa_cons pe_str pa_nil)))))))) (pe_callH h_law_pick (hr.mono (by decide)) rfl (pa_cons (pv 0) (pa_cons pe_int pa_nil))) (fun _ _ => rfl)))
        (pss_one (ps_if (pt_cmpR op_eq (pv 6) pe_str (nomark _))
        (pss_one (ps_expr (pe_bm PySem.F.plainAttrs_list PySem.F.slot_list_append PySem.F.type_list_append mt_append (pv 4) (pa_cons (pe_tup (pa_cons pe_str (pa_cons (pe_callH h_law_amount (hr.mono (by decide)) rfl (pa_cons (pv 0) pa_nil)) pa_nil))) pa_nil))))
        (pss_one (ps_if (PW.pt (pw_and (pt_cmpR op_eq (pv 6) pe_str (nomark _)) (pw_and1 (pt_val (pv 2)))))
          (pss_one (ps_expr (pe_bm PySem.F.plainAttrs_list PySem.F.slot_list_append PySem.F.type_list_append mt_append (pv 4) (pa_cons (pe_tup (pa_cons pe_str (pa_cons (pe_callH h_law_pick (hr.mono (by decide)) rfl (pa_cons (pv 0) (pa_cons (pv 3) pa_nil))) (pa_cons (pe_op op_add pe_int (pe_callH h_law_pick (hr.mono (by decide)) rfl (pa_cons (pv 0) (pa_cons pe_int pa_nil)))) (pa_cons (pe_callH h_law_pick (hr.mono (by decide)) rfl (pa_cons (pv 0) (pa_cons (pv 3) pa_nil))) pa_nil))))) pa_nil))))
          (pss_one (ps_if (pt_cmpR op_eq (pv 6) pe_str (nomark _))
            (pss_one (ps_expr (pe_bm PySem.F.plainAttrs_list PySem.F.slot_list_append PySem.F.type_list_append mt_append (pv 4) (pa_cons (pe_tup (pa_cons pe_str (pa_cons (pe_lst (pa_cons (pe_tup (pa_cons (pe_callH h_law_pick (hr.mono (by decide)) rfl (pa_cons (pv 0) (pa_cons (pv 3) pa_nil))) (pa_cons pe_int pa_nil))) (pa_cons (pe_tup (pa_cons (pe_callH h_law_pick (hr.mono (by decide)) rfl (pa_cons (pv 0) (pa_cons (pv 3) pa_nil))) (pa_cons pe_int pa_nil))) pa_nil))) pa_nil))) pa_nil))))
            (pss_one (ps_expr (pe_bm PySem.F.plainAttrs_list PySem.F.slot_list_append PySem.F.type_list_append mt_append (pv 4) (pa_cons (pe_tup (pa_cons (pv 6) (pa_cons (pe_callH h_law_arcs (hr.mono (by decide)) rfl (pa_cons (pv 0) (pa_cons (pv 3) pa_nil))) pa_nil))) pa_nil))))))))))))
      (pss_one (ps_ret (pv 4))))))), ?_⟩
    refine ⟨_, rfl, _, rfl, p, 4, rfl, hp, by omega, fun H1 r s1 hr1 => ?_⟩
    refine ⟨_, _, rfl, rfl, ?_⟩
    have e1 : (1 : Int) + (r : Int) = ((1 + r : Nat) : Int) := by omega
    -- how many cells there are
    refine ⟨fun σ' H' => ∃ m : Nat, 1 ≤ m ∧ m ≤ 11 ∧ Ps p H H' ∧ σ' = [some (.ref p), some (vN 4), some (.bl true), some (vN m), none, none, none], ?_, ?_⟩
    · refine ⟨_, rfl, p, 30, rfl, s1.2, by omega, fun H2 r2 s2 hr2 => ?_⟩
      have s12 := s1.trans s2
      refine ⟨rfl, _, rfl, ?_⟩
      refine ite2 (fun _ => ?_) (fun _ => ?_)
      · exact ⟨_, rfl, _, _, rfl, rfl, 11, by omega, by omega, s12, rfl⟩
      · refine ⟨1 + r, by omega, by omega, s12, ?_⟩
        rw [show vN (1 + r) = V.int ((1 : Int) + (r : Int)) from by show V.int _ = V.int _; congr 1]
        rfl
    · rintro σ' H2 ⟨m, m1, m2, s12, rfl⟩
      refine ⟨Nat.zero_le _, fun D hD => ?_⟩
      have nD : D ≠ p := s12.2.ne hD
      have hD0 : H D = none := s12.free hD
      refine ⟨_, rfl, _, rfl, (by show -(2 ^ 62 : Int) ≤ (m : Int); omega), (by show (m : Int) < 2 ^ 62; omega), ?_⟩
      refine for_range0 (n := m) (fun i σ H' => ∃ v5 v6, FillP K p D H H' i ∧ σ = [some (.ref p), some (vN 4), some (.bl true), some (vN m), some (.ref D), v5, v6]) ⟨none, none, ⟨s12.grow (same_new hD), [], [], upd_same, .nil, rfl, fun g hg => absurd hg (by simp)⟩, rfl⟩ ?_ ?_
      · rintro i σ H3 hi ⟨v5, v6, hf, rfl⟩
        have hp3 := hf.1.2
        refine ⟨(by show 7 ≤ sizeLine; decide), fun g hg => ?_⟩
        have s4 := (Ps.refl hp3).grow (same_new (o := .lst [.str "least", .str "greatest", .str "least", .str "greatest", .str "amount", .str "when", .str "greatest"]) hg)
        refine ⟨_, rfl, p, 7, rfl, s4.2, by omega, fun H5 c s5 hc => ?_⟩
        have hg5 := s5.at_ (hp3.ne hg) upd_same
        obtain ⟨v, hv, hk⟩ := kinds c hc
        have s35 := s4.trans s5
        refine ⟨g, _, _, _, rfl, rfl, SqL.of hg5, hv, ?_⟩
        -- the word and its arcs
        have withArcs : ∀ (x : Str) (mkF : List Arc → Fm), v = .str x → (∀ H q l, FmAt K H q (mkF l) ↔ ∃ r, SqT K H q [.str x, .ref r] ∧ ArcsAt K H r l) → (∀ l, Pre (mkF l) ↔ l ≠ [] ∧ l.length ≤ 6) →
            tDrop (tBM K "list" rAppend (tVar 4) (tCons (tTup (tCons (tVar 6) (tCons (tCall (spArcs K) [] E0 (tCons (tVar 0) (tCons (tVar 3) tNil))) tNil))) tNil))
            { nx := fun σ' H' => ∃ v5 v6, FillP K p D H H' (i + 1) ∧ σ' = [some (.ref p), some (vN 4), some (.bl true), some (vN m), some (.ref D), v5, v6], rt := Q }
            [some (.ref p), some (vN 4), some (.bl true), some (vN m), some (.ref D), some (vN i), some v] H5 := by
          intro x mkF hx hF hP
          subst hx
          have hf' := hf
          obtain ⟨_, qs0, l0, hD3, _⟩ := hf'
          refine ⟨_, rfl, .inl ⟨rfl, _, SqL.of (s35.at_ nD hD3)⟩, _, rfl, _, rfl, _, rfl, p, m, rfl, s35.2, m1, fun H6 q l s6 hq ha ne l6 => ⟨(by show 2 ≤ sizeLine; decide), fun T hT => ?_⟩⟩
          have sT := same_new (o := .tup [.str x, .ref q]) hT
          have s37 := (s35.trans s6).grow sT
          have nT : T ≠ p := s6.2.ne hT
          have hD6 := (s35.trans s6).at_ nD hD3
          have nTD : T ≠ D := fun z => by rw [z, hD6] at hT; cases hT
          have nq : q ≠ D := fun z => by
            have := s35.at_ nD hD3
            rw [← z, hq] at this; cases this
          have hD7 : del H6 p D = some (.lst (qs0.map V.ref)) := (del_ne nD).trans hD6
          have ha2 := arcsS _ _ _ _ (del_mono (del_mono sT)) (arcs_del hD7 nq ha)
          obtain ⟨xs, x1, x2, x3⟩ := hf.more (q := T) (g := mkF l) hD0 nD s37 ((hF _ _ _).mpr ⟨q, SqT.of ((del_ne nTD).trans ((del_ne nT).trans upd_same)), ha2⟩) ((hP l).mpr ⟨ne, l6⟩)
          exact ⟨D, xs, _, rfl, rfl, x1, line5000 (by omega), _, _, x3, rfl⟩
        rcases hk with hk | hk | hk | hk
        · subst hk
          refine ⟨_, rfl, rfl, _, rfl, iteDF n_la ?_⟩
          refine ⟨_, rfl, rfl, _, rfl, iteDF n_lw ?_⟩
          refine iteF ⟨_, rfl, rfl, _, rfl, iteDF n_lw ?_⟩
          exact withArcs "least" .lst rfl (fun _ _ _ => Iff.rfl) (fun _ => Iff.rfl)
        · subst hk
          refine ⟨_, rfl, rfl, _, rfl, iteDF n_ga ?_⟩
          refine ⟨_, rfl, rfl, _, rfl, iteDF n_gw ?_⟩
          refine iteF ⟨_, rfl, rfl, _, rfl, iteDF n_gw ?_⟩
          exact withArcs "greatest" .gst rfl (fun _ _ _ => Iff.rfl) (fun _ => Iff.rfl)
        · subst hk
          refine ⟨_, rfl, rfl, _, rfl, iteDT rfl ?_⟩
          have hf' := hf
          obtain ⟨_, qs0, l0, hD3, _⟩ := hf'
          refine ⟨_, rfl, .inl ⟨rfl, _, SqL.of (s35.at_ nD hD3)⟩, _, rfl, p, rfl, s35.2, fun H6 a s6 => ⟨(by show 2 ≤ sizeLine; decide), fun T hT => ?_⟩⟩
          have sT := same_new (o := .tup [.str "amount", vA a]) hT
          have nT : T ≠ p := s6.2.ne hT
          have hD6 := (s35.trans s6).at_ nD hD3
          have nTD : T ≠ D := fun z => by rw [z, hD6] at hT; cases hT
          obtain ⟨xs, x1, x2, x3⟩ := hf.more (q := T) (g := .amt a) hD0 nD ((s35.trans s6).grow sT) (SqT.of ((del_ne nTD).trans ((del_ne nT).trans upd_same))) trivial
          exact ⟨D, xs, _, rfl, rfl, x1, line5000 (by omega), _, _, x3, rfl⟩
        · subst hk
          refine ⟨_, rfl, rfl, _, rfl, iteDF n_wa ?_⟩
          refine ⟨_, rfl, rfl, _, rfl, iteDT rfl ⟨_, rfl, _, rfl, iteT ?_⟩⟩
          have hf' := hf
          obtain ⟨_, qs0, l0, hD3, _⟩ := hf'
          refine ⟨_, rfl, .inl ⟨rfl, _, SqL.of (s35.at_ nD hD3)⟩, _, rfl, _, rfl, p, m, rfl, s35.2, m1, fun H6 j s6 _ => ?_⟩
          refine ⟨_, rfl, p, 9, rfl, s6.2, by omega, fun H7 a s7 _ => ⟨_, _, rfl, rfl, ?_⟩⟩
          refine ⟨_, rfl, _, rfl, p, m, rfl, s7.2, m1, fun H8 c2 s8 _ => ⟨(by show 4 ≤ sizeLine; decide), fun T hT => ?_⟩⟩
          have ea : V.int ((1 : Int) + (a : Int)) = vN (1 + a) := by
            show V.int _ = V.int _
            congr 1
          have s38 := (s35.trans s6).trans (s7.trans s8)
          have nT : T ≠ p := s8.2.ne hT
          have hD8 := s38.at_ nD hD3
          have nTD : T ≠ D := fun z => by rw [z, hD8] at hT; cases hT
          have sT := same_new (o := .tup [.str "when", vN j, .int ((1 : Int) + (a : Int)), vN c2]) hT
          obtain ⟨xs, x1, x2, x3⟩ := hf.more (q := T) (g := .cnd j (1 + a) c2) hD0 nD (s38.grow sT) (SqT.of (by rw [← ea]; exact (del_ne nTD).trans ((del_ne nT).trans upd_same))) (by show 1 ≤ 1 + a; omega)
          exact ⟨D, xs, _, rfl, rfl, x1, line5000 (by omega), _, _, x3, rfl⟩
      · rintro σ H3 ⟨v5, v6, ⟨s3, qs, l, hD3, hpr, ll, hpre⟩, rfl⟩
        refine ⟨_, rfl, k _ D l s3 hD0 ⟨qs, SqL.of ((del_ne nD).trans hD3), Paired.mapP hpr fun _ _ z => fmS _ _ _ _ del_same z⟩ (by omega) (by omega) hpre⟩
end
end WK

/-! the law's own look at amounts, its values -/
namespace WK
open PySem PySem.Spec PyProof.Rows L2 LamX CS
theorem tyX_list {K : PySem.W.Frag} {H : Hp} {q : Addr} {xs : List V} (h : SqL K H q xs) : TyX K H (.ref q) (.type "list") := by
  rcases h with (h | ⟨o, h⟩) | ⟨o, its, n, h1, h2, _⟩
  · exact .base (.lst h)
  · exact .base (.frz h)
  · exact .kList h1 h2
section
variable {P : Program} {w : World} {K : PySem.W.Frag} {mg : Str → Option Value} {base : Heap} {f : Addr} {fd : FuncData}

-- _law_are_amounts: slots 0 _law_value_here, 1 _law_many, 2 _law_one
abbrev s_law_are_amounts : Stmt := top 28
abbrev n_law_are_amounts : List Str := ["_law_value_here", "_law_many", "_law_one"]
theorem sc_law_are_amounts : FnScope n_law_are_amounts ["_law_value_here", "_law_many"] (defScope s_law_are_amounts) := ⟨rfl, rfl, rfl, by decide +kernel, rfl, by decide +kernel, by decide +kernel⟩
def spAre (K : PySem.W.Frag) : Sp := fun vs H Q _ => ∃ (q : Addr) (x : List Am), vs = [.ref q, vN x.length] ∧ SqL K H q (x.map vA) ∧ Q (.bl true) H
theorem ok_law_are_amounts (F : Fun K "_law_are_amounts" "_law_are_amounts" s_law_are_amounts f fd) (B : Blt mg) : FnOk P w K mg base CX0 1 f fd ["_law_value_here", "_law_many"] (spAre K) := by
  refine F.ok sc_law_are_amounts (fun vs H Q E h => ?_) (fun cdv A outer s H vs Q E hr h => ?_)
  · obtain ⟨q, x, rfl, _⟩ := h
    rfl
  · obtain ⟨q, x, rfl, hx, k⟩ := h
    refine ⟨_, (pss_cons (ps_if (PW.pt (pw_or (pt_not (pt_val (pe_callB call_isi (by rfl) B.isinstance (by decide +kernel) (pa_cons (pv 0) (pa_cons (pe_bltn (v := .ty "list") rfl B.list (by decide +kernel) rfl) pa_nil))))) (pw_or1 (pt_cmpR op_ne (pe_callB call_len_seq (by rfl) B.len PySem.boot_len (pa_cons (pv 0) pa_nil)) (pv 1) (nomark _)))))
      (pss_one (ps_ret pe_bl))
      pss_nil)
      (pss_cons (ps_for PassesOwn.never rfl (pi_list (pv 0)) (pg_name (i := 2) sc_law_are_amounts.nd rfl (Or.inl rfl))
      (pss_one (ps_if (PW.pt (pw_and (pt_cmp (pc_notN (pv 2)) rfl) (pw_and1 (PW.pt (pw_or (pt_not (pt_val (pe_callB call_isi (by rfl) B.isinstance (by decide +kernel) (pa_cons (pv 2) (pa_cons (pe_bltn (v := .ty "int") rfl B.int (by decide +kernel) rfl) pa_nil))))) (pw_or (pt_val (pe_callB call_isi (by rfl) B.isinstance (by decide +kernel) (pa_cons (pv 2) (pa_cons (pe_bltn (v := .ty "bool") rfl B.bool (by decide +kernel) rfl) pa_nil)))) (pw_or1 (pt_cmpR op_lt (pv 2) pe_int (nomark _)))))))))
        (pss_one (ps_ret pe_bl))
        pss_nil)))
      (pss_one (ps_ret pe_bl)))), ?_⟩
    have lm : (x.map vA).length = x.length := List.length_map ..
    refine ⟨_, rfl, _, _, _, _, true, rfl, .ty _, tyX_list hx, kit_ty (by decide +kernel), _, rfl, ?_⟩
    refine iteF ⟨_, rfl, q, _, rfl, .inl hx, _, rfl, rfl, _, rfl, iteNT (by rw [lm]; rfl) ?_⟩
    refine ⟨_, rfl, q, rfl, ⟨_, hx⟩, for_list (K := K) (a := q) (xs := x.map vA) (fun i σ H' => H' = H ∧ ∃ v, σ = [some (.ref q), some (vN x.length), v]) ⟨rfl, none, rfl⟩ (fun i σ H' _ h => by rw [h.1]; exact hx) ?_ ?_⟩
    · rintro i y σ H' hi ⟨rfl, v, rfl⟩
      rw [List.getElem?_map] at hi
      cases e : x[i]? with
      | none => rw [e] at hi; cases hi
      | some a =>
        rw [e] at hi
        have hy : vA a = y := Option.some.inj hi
        subst hy
        cases a with
        | none => exact ⟨_, rfl, _, rfl, iteF (iteF ⟨rfl, _, rfl⟩)⟩
        | some n =>
          refine ⟨_, rfl, _, rfl, iteT ?_⟩
          refine ⟨_, rfl, _, _, _, _, true, rfl, .ty _, .base (.int _), kit_ty (by decide +kernel), _, rfl, ?_⟩
          refine iteF ⟨_, rfl, _, _, _, _, false, rfl, .ty _, .base (.int _), kit_ty (by decide +kernel), _, rfl, ?_⟩
          refine iteF ⟨_, rfl, _, _, rfl, rfl, _, rfl, iteDF (by omega) ⟨rfl, _, rfl⟩⟩
    · rintro σ H' ⟨rfl, v, rfl⟩
      exact k

-- _law_shifted: slots 0 _law_a, 1 _law_c
abbrev s_law_shifted : Stmt := top 29
abbrev n_law_shifted : List Str := ["_law_a", "_law_c"]
theorem sc_law_shifted : FnScope n_law_shifted ["_law_a", "_law_c"] (defScope s_law_shifted) := ⟨rfl, rfl, rfl, by decide +kernel, rfl, by decide +kernel, by decide +kernel⟩
theorem ok_law_shifted (F : Fun K "_law_shifted" "_law_shifted" s_law_shifted f fd) (B : Blt mg) : FnOk P w K mg base CX0 1 f fd ["_law_a", "_law_c"] spShifted := by
  refine F.ok sc_law_shifted (fun vs H Q E h => ?_) (fun cdv A outer s H vs Q E hr h => ?_)
  · obtain ⟨a, c, rfl, _⟩ := h
    rfl
  · obtain ⟨a, c, rfl, k⟩ := h
    refine ⟨_, (pss_cons (ps_if (pt_cmp (pc_isN (pv 0)) rfl)
      (pss_one (ps_ret pe_non))
      pss_nil)
      (pss_one (ps_ret (pe_callB (call_max2 rfl) (by rfl) B.max (by decide +kernel) (pa_cons pe_int (pa_cons (pe_op op_add (pv 0) (pv 1)) pa_nil)))))), ?_⟩
    refine ⟨_, rfl, _, rfl, ?_⟩
    cases a with
    | none => exact iteT k
    | some a =>
      refine iteF ⟨_, rfl, _, rfl, _, _, rfl, rfl, _, _, rfl, ?_⟩
      have e : (if (a : Int) + c > 0 then (a : Int) + c else 0) = ((((a : Int) + c).toNat : Nat) : Int) := by
        split <;> omega
      show Q (.int (if (a : Int) + c > 0 then (a : Int) + c else 0)) H
      rw [e]; exact k

-- _law_at_most: slots 0 _law_a, 1 _law_b
abbrev s_law_at_most : Stmt := top 30
abbrev n_law_at_most : List Str := ["_law_a", "_law_b"]
theorem sc_law_at_most : FnScope n_law_at_most ["_law_a", "_law_b"] (defScope s_law_at_most) := ⟨rfl, rfl, rfl, by decide +kernel, rfl, by decide +kernel, by decide +kernel⟩
theorem ok_law_at_most (F : Fun K "_law_at_most" "_law_at_most" s_law_at_most f fd) : FnOk P w K mg base CX0 1 f fd ["_law_a", "_law_b"] spAtMost := by
  refine F.ok sc_law_at_most (fun vs H Q E h => ?_) (fun cdv A outer s H vs Q E hr h => ?_)
  · obtain ⟨a, b, rfl, _⟩ := h
    rfl
  · obtain ⟨a, b, rfl, k⟩ := h
    refine ⟨_, (pss_one (ps_ret (pe_or (pe_cmp (pc_isN (pv 1)) rfl) (pe_one (pe_and (pe_cmp (pc_notN (pv 0)) rfl) (pe_one (pe_cmpR op_le (pv 0) (pv 1) (nomark _)))))))), ?_⟩
    refine ⟨_, rfl, _, rfl, ?_⟩
    cases b with
    | none => exact iteT (by have e : le a none := le_none a; rw [decide_eq_true e] at k; exact k)
    | some b =>
      refine iteF ?_
      cases a with
      | none =>
        refine ⟨_, rfl, _, rfl, iteF ?_⟩
        exact k
      | some a =>
        refine ⟨_, rfl, _, rfl, iteT ?_⟩
        refine ⟨_, rfl, _, rfl, _, _, rfl, rfl, ?_⟩
        have e : decide ((a : Int) ≤ (b : Int)) = decide (le (some a) (some b)) := by
          by_cases c : a ≤ b
          · rw [decide_eq_true (show (a : Int) ≤ b by omega), decide_eq_true (show le (some a) (some b) from c)]
          · rw [decide_eq_false (show ¬ (a : Int) ≤ b by omega), decide_eq_false (show ¬ le (some a) (some b) from c)]
        show Q (.bl (decide ((a : Int) ≤ (b : Int)))) H
        rw [e]; exact k

-- _law_one_of: slots 0 _law_amounts, 1 _law_kind, 2 _law_found, 3 _law_one
abbrev s_law_one_of : Stmt := top 31
abbrev n_law_one_of : List Str := ["_law_amounts", "_law_kind", "_law_found", "_law_one"]
theorem sc_law_one_of : FnScope n_law_one_of ["_law_amounts", "_law_kind"] (defScope s_law_one_of) := ⟨rfl, rfl, rfl, by decide +kernel, rfl, by decide +kernel, by decide +kernel⟩
def spOneOf (K : PySem.W.Frag) : Sp := fun vs H Q _ => ∃ (p : Addr) (l : List Am) (x : Str), vs = [.ref p, .str x] ∧ SqL K H p (l.map vA) ∧ l ≠ [] ∧ ((V.str x = .str "least" ∧ Q (vA (least1 l)) H) ∨ (V.str x = .str "greatest" ∧ Q (vA (greatest1 l)) H))
theorem ok_law_one_of (F : Fun K "_law_one_of" "_law_one_of" s_law_one_of f fd) (h_law_at_most : Has P w K mg base 1 "_law_at_most" ["_law_a", "_law_b"] spAtMost) : FnOk P w K mg base CX0 2 f fd ["_law_amounts", "_law_kind"] (spOneOf K) := by
  refine F.ok sc_law_one_of (fun vs H Q E h => ?_) (fun cdv A outer s H vs Q E hr h => ?_)
  · obtain ⟨p, l, x, rfl, _⟩ := h
    rfl
  · obtain ⟨p, l, x, rfl, hl, hne, k⟩ := h
    refine ⟨_, (pss_cons (ps_set (i := 2) sc_law_one_of.nd rfl (Or.inl rfl) (pe_ix (r := rIxL K) ix_list (pv 0) pe_int (fun _ _ => rfl)))
      (pss_cons (ps_for PassesOwn.never rfl (pi_list (pv 0)) (pg_name (i := 3) sc_law_one_of.nd rfl (Or.inl rfl))
      (pss_one (ps_if (PW.pt (pw_or (PW.pt (pw_and (pt_cmpR op_eq (pv 1) pe_str (nomark _)) (pw_and1 (pt_val (pe_callH h_law_at_most (hr.mono (by decide)) rfl (pa_cons (pv 3) (pa_cons (pv 2) pa_nil))))))) (pw_or1 (PW.pt (pw_and (pt_cmpR op_eq (pv 1) pe_str (nomark _)) (pw_and1 (pt_val (pe_callH h_law_at_most (hr.mono (by decide)) rfl (pa_cons (pv 2) (pa_cons (pv 3) pa_nil))))))))))
        (pss_one (ps_set (i := 2) sc_law_one_of.nd rfl (Or.inl rfl) (pv 3)))
        pss_nil)))
      (pss_one (ps_ret (pv 2))))), ?_⟩
    have h0 : 0 < l.length := List.length_pos_iff.mpr hne
    refine ⟨_, rfl, p, _, 0, _, rfl, rfl, hl, at_vA h0, ?_⟩
    rcases k with ⟨hx, k⟩ | ⟨hx, k⟩
    · refine ⟨_, rfl, p, rfl, ⟨_, hl⟩, for_list (K := K) (a := p) (xs := l.map vA) (fun i σ H' => H' = H ∧ ∃ v, σ = [some (.ref p), some (.str x), some (vA (leastOf (l.getD 0 none) (l.take i))), v])
        ⟨rfl, none, rfl⟩ (fun i σ H' _ h => by rw [h.1]; exact hl) ?_ ?_⟩
      · rintro i y σ H' hi ⟨rfl, v, rfl⟩
        rw [List.getElem?_map] at hi
        cases e : l[i]? with
        | none => rw [e] at hi; cases hi
        | some o =>
          rw [e] at hi
          have hy : vA o = y := Option.some.inj hi
          subst hy
          have e2 : leastOf (l.getD 0 none) (l.take (i + 1)) = if le o (leastOf (l.getD 0 none) (l.take i)) then o else leastOf (l.getD 0 none) (l.take i) := by
            rw [take_more e]
            unfold leastOf
            rw [List.foldl_append]
            rfl
          refine ⟨_, rfl, rfl, _, rfl, iteDT hx ?_⟩
          refine ⟨_, rfl, _, rfl, o, _, rfl, _, rfl, ?_⟩
          refine ite2 (fun c => ?_) (fun c => ?_)
          · refine iteT ⟨_, rfl, rfl, some (vA o), ?_⟩
            rw [e2, if_pos (of_decide_eq_true c)]
            rfl
          · refine ⟨_, rfl, rfl, _, rfl, iteDF (by rw [hx]; exact n_lg) (iteF ⟨rfl, some (vA o), ?_⟩)⟩
            rw [e2, if_neg (of_decide_eq_false (Bool.not_eq_true _ ▸ c))]
            rfl
      · rintro σ H' ⟨rfl, v, rfl⟩
        refine ⟨_, rfl, ?_⟩
        have e : leastOf (l.getD 0 none) (l.take (l.map vA).length) = least1 l := by
          rw [List.length_map, List.take_length]
          cases l with
          | nil => exact absurd rfl hne
          | cons a l => rfl
        rw [e]; exact k
    · refine ⟨_, rfl, p, rfl, ⟨_, hl⟩, for_list (K := K) (a := p) (xs := l.map vA) (fun i σ H' => H' = H ∧ ∃ v, σ = [some (.ref p), some (.str x), some (vA (greatestOf (l.getD 0 none) (l.take i))), v])
        ⟨rfl, none, rfl⟩ (fun i σ H' _ h => by rw [h.1]; exact hl) ?_ ?_⟩
      · rintro i y σ H' hi ⟨rfl, v, rfl⟩
        rw [List.getElem?_map] at hi
        cases e : l[i]? with
        | none => rw [e] at hi; cases hi
        | some o =>
          rw [e] at hi
          have hy : vA o = y := Option.some.inj hi
          subst hy
          have e2 : greatestOf (l.getD 0 none) (l.take (i + 1)) = if le (greatestOf (l.getD 0 none) (l.take i)) o then o else greatestOf (l.getD 0 none) (l.take i) := by
            rw [take_more e]
            unfold greatestOf
            rw [List.foldl_append]
            rfl
          refine ⟨_, rfl, rfl, _, rfl, iteDF (by rw [hx]; exact n_gl) (iteF ?_)⟩
          refine ⟨_, rfl, rfl, _, rfl, iteDT hx ?_⟩
          refine ⟨_, rfl, _, rfl, _, o, rfl, _, rfl, ?_⟩
          refine ite2 (fun c => ?_) (fun c => ?_)
          · refine ⟨_, rfl, rfl, some (vA o), ?_⟩
            rw [e2, if_pos (of_decide_eq_true c)]
            rfl
          · refine ⟨rfl, some (vA o), ?_⟩
            rw [e2, if_neg (of_decide_eq_false (Bool.not_eq_true _ ▸ c))]
            rfl
      · rintro σ H' ⟨rfl, v, rfl⟩
        refine ⟨_, rfl, ?_⟩
        have e : greatestOf (l.getD 0 none) (l.take (l.map vA).length) = greatest1 l := by
          rw [List.length_map, List.take_length]
          cases l with
          | nil => exact absurd rfl hne
          | cons a l => rfl
        rw [e]; exact k

-- _law_value: slots 0 _law_formula, 1 _law_x, 2 _law_j, 3 _law_c
abbrev s_law_value : Stmt := top 32
abbrev n_law_value : List Str := ["_law_formula", "_law_x", "_law_j", "_law_c"]
theorem sc_law_value : FnScope n_law_value ["_law_formula", "_law_x"] (defScope s_law_value) := ⟨rfl, rfl, rfl, by decide +kernel, rfl, by decide +kernel, by decide +kernel⟩
theorem ok_law_value (F : Fun K "_law_value" "_law_value" s_law_value f fd) (h_law_at_most : Has P w K mg base 1 "_law_at_most" ["_law_a", "_law_b"] spAtMost) (h_law_shifted : Has P w K mg base 1 "_law_shifted" ["_law_a", "_law_c"] spShifted)
    (h_law_one_of : Has P w K mg base 2 "_law_one_of" ["_law_amounts", "_law_kind"] (spOneOf K)) : FnOk P w K mg base CX0 3 f fd ["_law_formula", "_law_x"] (spFlatValue K) := by
  refine F.ok sc_law_value (fun vs H Q E h => ?_) (fun cdv A outer s H vs Q E hr h => ?_)
  · obtain ⟨p, x, fm, xs, rfl, _⟩ := h
    rfl
  · obtain ⟨p, x, fm, xs, rfl, hf, hx, ok, hsh, k⟩ := h
    refine ⟨_, (pss_cons (ps_if (pt_cmpR op_eq (pe_ix (r := rIxT K) ix_tup (pv 0) pe_int (fun _ _ => rfl)) pe_str (nomark _))
      (pss_one (ps_ret (pe_ix (r := rIxT K) ix_tup (pv 0) pe_int (fun _ _ => rfl))))
      pss_nil)
      (pss_cons (ps_if (pt_cmpR op_eq (pe_ix (r := rIxT K) ix_tup (pv 0) pe_int (fun _ _ => rfl)) pe_str (nomark _))
      (pss_cons (ps_if (pt_val (pe_callH h_law_at_most (hr.mono (by decide)) rfl (pa_cons (pe_ix (r := rIxT K) ix_tup (pv 0) pe_int (fun _ _ => rfl)) (pa_cons (pe_ix (r := rIxL K) ix_list (pv 1) (pe_ix (r := rIxT K) ix_tup (pv 0) pe_int (fun _ _ => rfl)) (fun _ _ => rfl)) pa_nil))))
        (pss_one (ps_ret (pe_ix (r := rIxL K) ix_list (pv 1) (pe_ix (r := rIxT K) ix_tup (pv 0) pe_int (fun _ _ => rfl)) (fun _ _ => rfl))))
        pss_nil)
        (pss_one (ps_ret pe_int)))
      pss_nil)
      (pss_one (ps_ret (pe_callH h_law_one_of (hr.mono (by decide)) rfl (pa_cons (pe_lc (own := [("_law_j", 2), ("_law_c", 3)]) (g := gTup K 2 (gCons (gName 2) (gCons (gName 3) gNil))) rfl sc_law_value.nd  (pi_list (pe_ix (r := rIxT K) ix_tup (pv 0) pe_int (fun _ _ => rfl))) (blkOk_by (N := n_law_value) (sc := defScope s_law_value) (by decide +kernel)) (fun _ _ _ _ _ => (pg_tup rfl (pgs_cons (pg_name (i := 2) sc_law_value.nd rfl (Or.inl rfl)) (pgs_cons (pg_name (i := 3) sc_law_value.nd rfl (Or.inl rfl)) pgs_nil)))) (fun _ _ _ _ _ => pts_nil) (fun _ _ _ _ _ => (pe_callH h_law_shifted (hr.mono (by decide)) rfl (pa_cons (pe_ix (r := rIxL K) ix_list (pv 1) (pv 2) (fun _ _ => rfl)) (pa_cons (pv 3) pa_nil))))) (pa_cons (pe_ix (r := rIxT K) ix_tup (pv 0) pe_int (fun _ _ => rfl)) pa_nil))))))), ?_⟩
    obtain ⟨ws, hw1, hw2⟩ := word_at hf
    refine ⟨_, rfl, p, _, 0, _, rfl, rfl, hw1, hw2, word_scal _ _, _, rfl, ?_⟩
    -- the values of the arcs
    have comp : ∀ (l : List Arc) (q : Addr) (wd : Str) (Q' : V → Hp → Prop), SqT K H p [.str wd, .ref q] → ArcsAt K H q l → (∀ t s, (t, s) ∈ l → t < xs.length) → l.length ≤ 6 → (∀ H' D, Same H H' → H' D = some (.lst ((arcVals l (xF xs)).map vA)) → Q' (.ref D) H') →
        tLc (iList K (tOp (rIxT K) (tVar 0) (tC (.int 1)))) (gTup K 2 (gCons (gName 2) (gCons (gName 3) gNil))) tYes (tCall spShifted [] E0 (tCons (tOp (rIxL K) (tVar 1) (tVar 2)) (tCons (tVar 3) tNil))) [2, 3] [some (.ref p), some (.ref x), none, none] H Q' := by
      rintro l q wd Q' hf ⟨ps, hq, hps⟩ tl hsh kq
      have lps := hps.length
      refine ⟨_, rfl, p, _, 1, _, rfl, rfl, hf, atI_nat (j := 1) rfl, q, rfl, ⟨_, hq⟩, fun D hD => lc_list (K := K) (a := q) (xs := ps.map V.ref)
        (fun i H' => Same H H' ∧ H' D = some (.lst ((arcVals (l.take i) (xF xs)).map vA))) ⟨same_new hD, upd_same⟩ (fun i H' _ h => h.1.seq hq) ?_ ?_⟩
      · rintro i y H' hi ⟨sm, hD'⟩
        rw [List.getElem?_map] at hi
        cases e : ps[i]? with
        | none => rw [e] at hi; cases hi
        | some pa =>
          rw [e] at hi
          have hy : V.ref pa = y := Option.some.inj hi
          subst hy
          obtain ⟨⟨t, sft⟩, ea, ra⟩ := paired_at1 hps e
          have ht : t < xs.length := tl t sft (List.mem_of_getElem? ea)
          refine ⟨_, _, rfl, SqT_ext (exN sm) ra, rfl, _, _, rfl, _, _, rfl, rfl, rfl, ?_⟩
          refine ⟨_, rfl, _, rfl, x, _, _, _, rfl, rfl, sm.seq hx, at_vA ht, _, rfl, _, _, rfl, _, hD', ?_, same_upd sm hD, ?_⟩
          · rw [List.length_map]; unfold arcVals; rw [List.length_map, List.length_take]
            exact line_of (m := 6) (by omega) (by omega)
          · rw [take_more ea]
            unfold arcVals
            rw [List.map_append, List.map_append]
            exact upd_same
      · rintro H' ⟨sm, hD'⟩
        rw [List.length_map, lps, List.take_length] at hD'
        exact kq H' D sm hD'
    cases fm with
    | amt a =>
      have hf : SqT K H p [.str "amount", vA a] := hf
      exact iteDT rfl ⟨_, rfl, p, _, 1, _, rfl, rfl, hf, atI_nat (j := 1) rfl, k _ (Same.refl _)⟩
    | cnd j a c =>
      have hf : SqT K H p [.str "when", vN j, vN a, vN c] := hf
      refine iteDF n_wa ⟨_, rfl, p, _, 0, _, rfl, rfl, hw1, hw2, rfl, _, rfl, iteDT rfl ?_⟩
      refine ⟨_, rfl, p, _, 2, _, rfl, rfl, hf, atI_nat (j := 2) rfl, ?_⟩
      refine ⟨_, rfl, _, rfl, p, _, 1, _, rfl, rfl, hf, atI_nat (j := 1) rfl, x, _, _, _, rfl, rfl, hx, at_vA ok.1, ?_⟩
      refine ⟨some a, _, rfl, _, rfl, ?_⟩
      have k := k H (Same.refl _)
      refine ite2 (fun h => ?_) (fun h => ?_)
      · refine ⟨_, rfl, _, rfl, p, _, 3, _, rfl, rfl, hf, atI_nat (j := 3) rfl, x, _, _, _, rfl, rfl, hx, at_vA ok.2.1, ?_⟩
        have e : fv (.cnd j a c) (xF xs) = xs.getD c none := if_pos (of_decide_eq_true h)
        rw [e] at k; exact k
      · have e : fv (.cnd j a c) (xF xs) = some 0 := if_neg (of_decide_eq_false (Bool.not_eq_true _ ▸ h))
        rw [e] at k; exact k
    | lst l =>
      obtain ⟨q, hf, ha⟩ := hf
      refine iteDF n_la ⟨_, rfl, p, _, 0, _, rfl, rfl, hw1, hw2, rfl, _, rfl, iteDF n_lw ?_⟩
      refine comp l q "least" (fun y H1 => tCons (tOp (rIxT K) (tVar 0) (tC (.int 0))) tNil [some (.ref p), some (.ref x), none, none] H1 fun ys H2 => spOneOf K ((y :: ys) ++ []) H2 Q E0) hf ha ok.2 hsh fun H' D sm hD => ?_
      exact ⟨_, rfl, p, _, 0, _, rfl, rfl, SqT_ext (exN sm) hw1, hw2, D, _, _, rfl, SqL.of hD, arcVals_ne ok.1, .inl ⟨rfl, k _ sm⟩⟩
    | gst l =>
      obtain ⟨q, hf, ha⟩ := hf
      refine iteDF n_ga ⟨_, rfl, p, _, 0, _, rfl, rfl, hw1, hw2, rfl, _, rfl, iteDF n_gw ?_⟩
      refine comp l q "greatest" (fun y H1 => tCons (tOp (rIxT K) (tVar 0) (tC (.int 0))) tNil [some (.ref p), some (.ref x), none, none] H1 fun ys H2 => spOneOf K ((y :: ys) ++ []) H2 Q E0) hf ha ok.2 hsh fun H' D sm hD => ?_
      exact ⟨_, rfl, p, _, 0, _, rfl, rfl, SqT_ext (exN sm) hw1, hw2, D, _, _, rfl, SqL.of hD, arcVals_ne ok.1, .inr ⟨rfl, k _ sm⟩⟩

-- _law_values: slots 0 _law_flat_here, 1 _law_x, 2 _law_formula
abbrev s_law_values : Stmt := top 33
abbrev n_law_values : List Str := ["_law_flat_here", "_law_x", "_law_formula"]
theorem sc_law_values : FnScope n_law_values ["_law_flat_here", "_law_x"] (defScope s_law_values) := ⟨rfl, rfl, rfl, by decide +kernel, rfl, by decide +kernel, by decide +kernel⟩
def valsL (F : List Fm) (x : List Am) : List Am := (List.range F.length).map fun u => fv (fF F u) (xF x)
def spValues (K : PySem.W.Frag) : Sp := fun vs H Q _ => ∃ (p q : Addr) (F : List Fm) (x : List Am), vs = [.ref p, .ref q] ∧ ShAt K H p F ∧ SqL K H q (x.map vA) ∧ x.length = F.length ∧ Flat F ∧
  ∀ H' r, Same H H' → H r = none → H' r = some (.lst ((valsL F x).map vA)) → Q (.ref r) H'
theorem ok_law_values (F : Fun K "_law_values" "_law_values" s_law_values f fd) (h_law_value : Has P w K mg base 3 "_law_value" ["_law_formula", "_law_x"] (spFlatValue K)) : FnOk P w K mg base CX0 4 f fd ["_law_flat_here", "_law_x"] (spValues K) := by
  refine F.ok sc_law_values (fun vs H Q E h => ?_) (fun cdv A outer s H vs Q E hr h => ?_)
  · obtain ⟨p, q, F, x, rfl, _⟩ := h
    rfl
  · obtain ⟨p, q, F, x, rfl, hF, hx, lx, hfl, k⟩ := h
    refine ⟨_, (pss_one (ps_ret (pe_lc (own := [("_law_formula", 2)]) (g := gName 2) rfl sc_law_values.nd  (pi_list (pv 0)) (blkOk_by (N := n_law_values) (sc := defScope s_law_values) (by decide +kernel)) (fun _ _ _ _ _ => (pg_name (i := 2) sc_law_values.nd rfl (Or.inl rfl))) (fun _ _ _ _ _ => pts_nil) (fun _ _ _ _ _ => (pe_callH h_law_value (hr.mono (by decide)) rfl (pa_cons (pv 2) (pa_cons (pv 1) pa_nil))))))), ?_⟩
    obtain ⟨ps, hq, hps⟩ := id hF
    have lps : (ps.map V.ref).length = F.length := by rw [List.length_map, hps.length]
    have hlen := hfl.len
    refine ⟨_, rfl, p, rfl, ⟨_, hq⟩, fun D hD => lc_list (K := K) (a := p) (xs := ps.map V.ref)
      (fun i H' => Same H H' ∧ H' D = some (.lst (((List.range i).map fun u => fv (fF F u) (xF x)).map vA))) ⟨same_new hD, upd_same⟩ (fun i H' _ h => h.1.seq hq) ?_ ?_⟩
    · rintro i y H' hi ⟨sm, hD'⟩
      rw [List.getElem?_map] at hi
      cases e : ps[i]? with
      | none => rw [e] at hi; cases hi
      | some g =>
        rw [e] at hi
        have hy : V.ref g = y := Option.some.inj hi
        subst hy
        have hil : i < F.length := by have := (List.getElem?_eq_some_iff.mp e).1; rw [List.length_map] at lps; omega
        obtain ⟨fm', ea, hf⟩ := paired_at1 hps e
        rw [fF_at hil] at ea
        have ea := Option.some.inj ea
        subst ea
        refine ⟨rfl, _, rfl, _, rfl, g, q, fF F i, x, rfl, fmS _ _ _ _ sm hf, sm.seq hx, by rw [lx]; exact hfl.ok i hil, hfl.six i, fun H2 s2 => ?_⟩
        refine ⟨_, s2 _ _ hD', ?_, same_upd (sm.trans s2) hD, ?_⟩
        · rw [List.length_map, List.length_map, List.length_range]
          exact line_of (m := 600) (by omega) (by omega)
        · rw [range_more, List.map_append]; exact upd_same
    · rintro H' ⟨sm, hD'⟩
      rw [lps] at hD'
      exact k H' D sm hD hD'
end
end WK

/-! _law_box -/
namespace WK
open PySem PySem.Spec PyProof.Rows L2 LamX CS
section
variable {P : Program} {w : World} {K : PySem.W.Frag} {mg : Str → Option Value} {base : Heap} {f : Addr} {fd : FuncData}

theorem paired_append {α β : Type} {F : α → β → Prop} : ∀ {l₁ m₁ : List α} {l₂ m₂ : List β}, Paired F l₁ l₂ → Paired F m₁ m₂ → Paired F (l₁ ++ m₁) (l₂ ++ m₂)
  | _, _, _, _, .nil, q => q
  | _, _, _, _, .cons r t, q => .cons r (paired_append t q)
/-- a list of amounts stands at r -/
def AmsAt (H : Hp) (r : Addr) (ys : List Am) : Prop := H r = some (.lst (ys.map vA))
theorem amsS : ∀ H H' q a, Same H H' → AmsAt H q a → AmsAt H' q a := fun _ _ _ _ s h => s _ _ h
-- _law_box: slots 0 _law_many, 1 _law_amounts, 2 _law_found, 3 _law_k, 4 _law_longer, 5 _law_one, 6 _law_amount_here
abbrev s_law_box : Stmt := top 34
abbrev n_law_box : List Str := ["_law_many", "_law_amounts", "_law_found", "_law_k", "_law_longer", "_law_one", "_law_amount_here"]
theorem sc_law_box : FnScope n_law_box ["_law_many"] (defScope s_law_box) := ⟨rfl, rfl, rfl, by decide +kernel, rfl, by decide +kernel, by decide +kernel⟩
def spBox : Sp := fun vs H Q _ => ∃ (m : Nat), vs = [vN m] ∧ 1 ≤ m ∧ m ≤ 4 ∧ ∀ H' q rs (yss : List (List Am)), Same H H' → H' q = some (.lst (List.map V.ref rs)) → Paired (AmsAt H') rs yss → (∀ ys, ys ∈ yss → ys.length = m) → Q (.ref q) H'
theorem pow_bound {a m k : Nat} (h : a ^ m ≤ 1000) (hk : k ≤ m) (ha : 1 ≤ a) : a ^ k ≤ 1000 := Nat.le_trans (Nat.pow_le_pow_right ha hk) h
theorem ok_law_box (F : Fun K "_law_box" "_law_box" s_law_box f fd) (B : Blt mg) : FnOk P w K mg base CX0 1 f fd ["_law_many"] spBox := by
  refine F.ok sc_law_box (fun vs H Q E h => ?_) (fun cdv A outer s H vs Q E hr h => ?_)
  · obtain ⟨m, rfl, _⟩ := h
    rfl
  · obtain ⟨m, rfl, m1, m4, k⟩ := h
    refine ⟨_, (pss_cons (ps_set (i := 1) sc_law_box.nd rfl (Or.inl rfl) (pe_lst (pa_cons pe_int (pa_cons pe_int (pa_cons pe_int (pa_cons pe_int (pa_cons pe_int (pa_cons pe_int (pa_cons pe_non pa_nil)))))))))
      (C8.pss_cut (ps_if (pt_cmpR op_gt (pv 0) pe_int (nomark _))
      (pss_one (ps_set (i := 1) sc_law_box.nd rfl (Or.inl rfl) (pe_lst (pa_cons pe_int (pa_cons pe_int (pa_cons pe_int (pa_cons pe_int (pa_cons pe_non pa_nil))))))))
      pss_nil)
      (pss_cons (ps_set (i := 2) sc_law_box.nd rfl (Or.inl rfl) (pe_lst (pa_cons (pe_lst pa_nil) pa_nil)))
      (pss_cons (ps_for PassesOwn.never rfl (pi_range1 (by rfl) B.range (pa_cons (pv 0) pa_nil)) (pg_name (i := 3) sc_law_box.nd rfl (Or.inl rfl))
      (pss_cons (ps_set (i := 4) sc_law_box.nd rfl (Or.inl rfl) (pe_lst pa_nil))
        (pss_cons (ps_for PassesOwn.never rfl (pi_list (pv 2)) (pg_name (i := 5) sc_law_box.nd rfl (Or.inr rfl))
        (pss_one (ps_set (i := 4) sc_law_box.nd rfl (Or.inl rfl) (pe_op op_cat (pv 4) (pe_lc (own := [("_law_amount_here", 6)]) (g := gName 6) rfl sc_law_box.nd  (pi_list (pv 1)) (blkOk_by (N := n_law_box) (sc := defScope s_law_box) (by decide +kernel)) (fun _ _ _ _ _ => (pg_name (i := 6) sc_law_box.nd rfl (Or.inl rfl))) (fun _ _ _ _ _ => pts_nil) (fun _ _ _ _ _ => (pe_op op_cat (pv 5) (pe_lst (pa_cons (pv 6) pa_nil)))))))))
        (pss_one (ps_set (i := 2) sc_law_box.nd rfl (Or.inl rfl) (pv 4))))))
      (pss_one (ps_ret (pv 2))))))), ?_⟩
    refine ⟨(by show 7 ≤ sizeLine; decide), fun A1 hA1 => ?_⟩
    have s1 := same_new (o := .lst [.int 0, .int 1, .int 2, .int 3, .int 4, .int 5, .non]) hA1
    refine ⟨fun σ' H' => ∃ (A : Addr) (as : List Am), Same H H' ∧ H' A = some (.lst (as.map vA)) ∧ as.length ^ m ≤ 1000 ∧ 1 ≤ as.length ∧ σ' = [some (vN m), some (.ref A), none, none, none, none, none], ?_, ?_⟩
    · refine ⟨_, rfl, _, _, rfl, rfl, _, rfl, ?_⟩
      refine ite2 (fun c => ?_) (fun c => ?_)
      · have c : (3 : Int) < (m : Int) := of_decide_eq_true c
        refine ⟨(by show 5 ≤ sizeLine; decide), fun A2 hA2 => ?_⟩
        have hm : m = 4 := by omega
        subst hm
        exact ⟨A2, [some 0, some 1, some 2, some 3, none], s1.trans (same_new hA2), upd_same, by decide, by decide, rfl⟩
      · have c : ¬ (3 : Int) < (m : Int) := of_decide_eq_false (Bool.not_eq_true _ ▸ c)
        refine ⟨A1, [some 0, some 1, some 2, some 3, some 4, some 5, none], s1, upd_same, ?_, by decide, rfl⟩
        exact Nat.le_trans (Nat.pow_le_pow_right (show 0 < 7 by omega) (show m ≤ 3 by omega)) (by decide)
    rintro σ' H2 ⟨A, as, s2, hA, hpow, has, rfl⟩
    refine ⟨Nat.zero_le _, fun r0 hr0 => ⟨(by show 1 ≤ sizeLine; decide), fun q0 hq0 => ?_⟩⟩
    have s3 := same_new (o := .lst []) hr0
    have s4 := same_new (o := .lst [.ref r0]) hq0
    refine ⟨_, rfl, _, rfl, (by show -(2 ^ 62 : Int) ≤ (m : Int); omega), (by show (m : Int) < 2 ^ 62; omega), ?_⟩
    refine for_range0 (n := m) (fun k σ H' => ∃ (q : Addr) (rs : List Addr) (yss : List (List Am)) (v3 v4 v5 : Option V), Same H2 H' ∧ H' q = some (.lst (rs.map V.ref)) ∧ Paired (AmsAt H') rs yss ∧ (∀ ys, ys ∈ yss → ys.length = k) ∧ rs.length = as.length ^ k ∧
        σ = [some (vN m), some (.ref A), some (.ref q), v3, v4, v5, none])
      ⟨q0, [r0], [[]], none, none, none, s3.trans s4, upd_same, .cons (s4 _ _ upd_same) .nil, fun ys h => by rw [List.mem_singleton] at h; rw [h]; rfl, by simp, rfl⟩ ?_ ?_
    · rintro kk σ H5 hk ⟨q, rs, yss, v3, v4, v5, s5, hq, hrs, hlen, lrs, rfl⟩
      have b1 : as.length ^ (kk + 1) ≤ 1000 := pow_bound hpow hk has
      have ep : as.length ^ (kk + 1) = rs.length * as.length := by rw [Nat.pow_succ, lrs]
      refine ⟨Nat.zero_le _, fun l0 hl0 => ?_⟩
      have s6 := same_new (o := .lst []) hl0
      refine ⟨_, rfl, q, rfl, ⟨_, SqL.of (s6 _ _ hq)⟩, for_list (K := K) (a := q) (xs := rs.map V.ref)
        (fun i σ H' => ∃ (ql : Addr) (ls : List Addr) (zss : List (List Am)) (v5 : Option V), Same H5 H' ∧ H' ql = some (.lst (ls.map V.ref)) ∧ Paired (AmsAt H') ls zss ∧ (∀ ys, ys ∈ zss → ys.length = kk + 1) ∧ ls.length = i * as.length ∧
          σ = [some (vN m), some (.ref A), some (.ref q), some (vN kk), some (.ref ql), v5, none])
        ⟨l0, [], [], v5, s6, upd_same, .nil, fun ys h => absurd h (by simp), by simp, rfl⟩ (fun i σ H' _ ⟨_, _, _, _, sm, _⟩ => SqL.of (sm _ _ hq)) ?_ ?_⟩
      · rintro i y σ H6 hi ⟨ql, ls, zss, v5, sm, hql, hls, hzl, lls, rfl⟩
        rw [List.getElem?_map] at hi
        cases e : rs[i]? with
        | none => rw [e] at hi; cases hi
        | some r =>
          rw [e] at hi
          have hy : V.ref r = y := Option.some.inj hi
          subst hy
          have hil : i < rs.length := (List.getElem?_eq_some_iff.mp e).1
          obtain ⟨ys, ey, hr5⟩ := paired_at1 hrs e
          have ly : ys.length = kk := hlen ys (List.mem_of_getElem? ey)
          have hr6 : H6 r = some (.lst (ys.map vA)) := sm _ _ hr5
          have hA6 := (s5.trans sm) _ _ hA
          refine ⟨_, rfl, _, rfl, A, rfl, ⟨_, SqL.of hA6⟩, fun D hD => lc_list (K := K) (a := A) (xs := as.map vA)
            (fun j H' => Filling AmsAt H6 H' D ((as.take j).map fun a => ys ++ [a])) ⟨same_del hD (same_new hD), [], upd_same, .nil⟩ (fun j H' _ h => SqL.of ((h.1.trans del_same) _ _ hA6)) ?_ ?_⟩
          · rintro j y H7 hj ⟨sf, qs, hDq, hpr⟩
            rw [List.getElem?_map] at hj
            cases ej : as[j]? with
            | none => rw [ej] at hj; cases hj
            | some a =>
              rw [ej] at hj
              have hy : vA a = y := Option.some.inj hj
              subst hy
              have hjl : j < as.length := (List.getElem?_eq_some_iff.mp ej).1
              have sf0 := sf.trans del_same
              refine ⟨rfl, _, rfl, _, rfl, (by show 1 ≤ sizeLine; decide), fun b hb => ?_⟩
              have s8 := same_new (o := .lst [vA a]) hb
              refine ⟨r, b, _, _, rfl, rfl, s8 _ _ (sf0 _ _ hr6), upd_same, Nat.le_of_lt (line_of (m := 10) (by rw [List.length_map]; show ys.length + 1 ≤ 10; omega) (by omega)), fun t ht => ?_⟩
              have s9 := same_new (o := .lst (ys.map vA ++ [vA a])) ht
              have hD9 := s9 _ _ (s8 _ _ hDq)
              have nt : t ≠ D := fun z => by rw [z, s8 _ _ hDq] at ht; cases ht
              have la : as.length ≤ 1000 := Nat.le_trans (by have := Nat.pow_le_pow_right has m1; rw [Nat.pow_one] at this; exact this) hpow
              refine ⟨_, hD9, ?_, ?_⟩
              · rw [List.length_map, hpr.length, List.length_map, List.length_take]
                exact line_of (m := 1000) (by omega) (by omega)
              · rw [take_more ej, List.map_append]
                refine Filling.more amsS sf hpr (del_mono (s8.trans s9)) ?_
                show del _ D t = some (.lst ((ys ++ [a]).map vA))
                rw [del_ne nt, List.map_append]; exact upd_same
          · rintro H7 fl
            rw [List.length_map, List.take_length] at fl
            obtain ⟨s7, ds, hd, hdp⟩ := fl
            have hDs : H7 D = some (.lst (ds.map V.ref)) := hd
            have s67 := s7.trans del_same
            have lds : ds.length = as.length := by rw [hdp.length, List.length_map]
            have bnd : (i + 1) * as.length ≤ 1000 := Nat.le_trans (Nat.mul_le_mul_right _ hil) (by rw [← ep]; exact b1)
            refine ⟨ql, D, _, _, rfl, rfl, s67 _ _ hql, hDs, Nat.le_of_lt (line_of (m := 1000) (by rw [List.length_map, List.length_map, lls, lds, ← Nat.succ_mul]; exact bnd) (by omega)), fun t ht => ?_⟩
            have s8 := same_new (o := .lst (ls.map V.ref ++ ds.map V.ref)) ht
            refine ⟨t, ls ++ ds, zss ++ as.map (fun a => ys ++ [a]), _, (sm.trans s67).trans s8, ?_, ?_, fun zs hz => ?_, ?_, rfl⟩
            · rw [List.map_append]; exact upd_same
            · exact paired_append (Paired.mapP hls fun _ _ z => amsS _ _ _ _ (s67.trans s8) z) (Paired.mapP hdp fun _ _ z => amsS _ _ _ _ (del_same.trans s8) z)
            · rcases List.mem_append.mp hz with h | h
              · exact hzl zs h
              · obtain ⟨a, _, ea⟩ := List.mem_map.mp h
                rw [← ea, List.length_append, ly]; rfl
            · rw [List.length_append, lls, lds, Nat.succ_mul]
      · rintro σ H6 ⟨ql, ls, zss, v5, sm, hql, hls, hzl, lls, rfl⟩
        refine ⟨_, rfl, ql, ls, zss, _, _, _, s5.trans sm, hql, hls, hzl, ?_, rfl⟩
        rw [lls, List.length_map, ep]
    · rintro σ H5 ⟨q, rs, yss, v3, v4, v5, s5, hq, hrs, hlen, lrs, rfl⟩
      exact ⟨_, rfl, k _ q rs yss (s2.trans s5) hq hrs hlen⟩
end
end WK

/-! the law -/
namespace WK
open PySem PySem.Spec PyProof.Rows L2 LamX CS
/-- the cells brought below n -/
def normA (n : Nat) (a : Arc) : Arc := (a.1 % n, a.2)
def norm (n : Nat) : Fm → Fm
  | .amt a => .amt a
  | .lst l => .lst (l.map (normA n))
  | .gst l => .gst (l.map (normA n))
  | .cnd j a k => .cnd (j % n) a (k % n)
theorem norm_ok {n : Nat} (hn : 1 ≤ n) {g : Fm} (h : Pre g) : FmOk n (norm n g) ∧ Short (norm n g) := by
  have lt : ∀ l : List Arc, ∀ t s, (t, s) ∈ l.map (normA n) → t < n := fun l t s hm => by
    obtain ⟨a, _, e⟩ := List.mem_map.mp hm
    have : t = a.1 % n := (congrArg Prod.fst e).symm
    rw [this]; exact Nat.mod_lt _ (by omega)
  cases g with
  | amt a => exact ⟨trivial, trivial⟩
  | lst l =>
    have h : l ≠ [] ∧ l.length ≤ 6 := h
    exact ⟨⟨fun e => h.1 (List.map_eq_nil_iff.mp e), lt l⟩, by show (l.map (normA n)).length ≤ 6; rw [List.length_map]; exact h.2⟩
  | gst l =>
    have h : l ≠ [] ∧ l.length ≤ 6 := h
    exact ⟨⟨fun e => h.1 (List.map_eq_nil_iff.mp e), lt l⟩, by show (l.map (normA n)).length ≤ 6; rw [List.length_map]; exact h.2⟩
  | cnd j a k => exact ⟨⟨Nat.mod_lt _ (by omega), Nat.mod_lt _ (by omega), h⟩, trivial⟩
/-- the first i brought so -/
def mix (n i : Nat) (F : List Fm) : List Fm := (List.range n).map fun u => if u < i then norm n (fF F u) else fF F u
theorem mix_len (n i : Nat) (F : List Fm) : (mix n i F).length = n := by unfold mix; rw [List.length_map, List.length_range]
theorem mix_at {n i u : Nat} {F : List Fm} (h : u < n) : (mix n i F)[u]? = some (if u < i then norm n (fF F u) else fF F u) := by
  unfold mix
  rw [List.getElem?_map, List.getElem?_range h]; rfl
theorem mix_more {n i : Nat} {F : List Fm} (h : i < n) : mix n (i + 1) F = (mix n i F).set i (norm n (fF F i)) := by
  refine List.ext_getElem? fun u => ?_
  by_cases hu : u < n
  · rw [mix_at hu]
    by_cases e : i = u
    · subst e
      rw [List.getElem?_set_self (by rw [mix_len]; exact hu), if_pos (by omega)]
    · rw [List.getElem?_set_ne e, mix_at hu]
      by_cases c : u < i
      · rw [if_pos c, if_pos (by omega)]
      · rw [if_neg c, if_neg (by omega)]
  · rw [List.getElem?_eq_none (by rw [mix_len]; omega), List.getElem?_eq_none (by rw [List.length_set, mix_len]; omega)]
theorem mix_same {n i : Nat} {F : List Fm} (h : i < n) (e : norm n (fF F i) = fF F i) : mix n (i + 1) F = mix n i F := by
  rw [mix_more h, e]
  refine List.ext_getElem? fun u => ?_
  by_cases hu : i = u
  · subst hu
    rw [List.getElem?_set_self (by rw [mix_len]; exact h), mix_at h, if_neg (by omega)]
  · rw [List.getElem?_set_ne hu]
theorem fF_mix {n u : Nat} {F : List Fm} (h : u < n) : fF (mix n n F) u = norm n (fF F u) := by
  have e := mix_at (i := n) (F := F) h
  rw [if_pos h] at e
  show (mix n n F).getD u (.amt none) = _
  rw [List.getD_eq_getElem?_getD, e]; rfl
theorem mix_zero (F : List Fm) : mix F.length 0 F = F := by
  refine List.ext_getElem? fun u => ?_
  by_cases hu : u < F.length
  · rw [mix_at hu, if_neg (by omega), fF_at hu]
  · rw [List.getElem?_eq_none (by rw [mix_len]; omega), List.getElem?_eq_none (by omega)]
theorem flat_mix {F : List Fm} (h1 : 1 ≤ F.length) (h4 : F.length ≤ 4) (hp : ∀ g, g ∈ F → Pre g) : Flat (mix F.length F.length F) := by
  have pre : ∀ u, u < F.length → Pre (fF F u) := fun u hu => hp _ (List.mem_of_getElem? (fF_at hu))
  refine ⟨by rw [mix_len]; omega, fun u hu => ?_, fun u => ?_⟩
  · rw [mix_len] at hu ⊢
    rw [fF_mix hu]; exact (norm_ok h1 (pre u hu)).1
  · by_cases hu : u < F.length
    · rw [fF_mix hu]; exact (norm_ok h1 (pre u hu)).2
    · rw [fF_out (by rw [mix_len]; omega)]; exact trivial
theorem cutV4 (xs : List V) : cutV xs none (some 4) = xs.take 4 := by
  unfold cutV
  rw [HT.sIx_none, show (4 : Int) = ((4 : Nat) : Int) from rfl, HT.sIx_nat, List.drop_zero, Nat.sub_zero]
  by_cases c : xs.length ≤ 4
  · rw [Nat.min_eq_right c, List.take_length, List.take_of_length_le c]
  · rw [Nat.min_eq_left (by omega)]
theorem paired_take {α β : Type} {F : α → β → Prop} : ∀ {l₁ : List α} {l₂ : List β} (n : Nat), Paired F l₁ l₂ → Paired F (l₁.take n) (l₂.take n)
  | _, _, 0, _ => .nil
  | _, _, _ + 1, .nil => .nil
  | _, _, n + 1, .cons r t => .cons r (paired_take n t)
theorem tabs_ps {T : List (Addr × Str)} {H H' : Hp} {p : Addr} (t : Tabs T H) (hp : Pl H p) (a : Ps p H H') : Tabs T H' := fun x hx => by
  obtain ⟨l, e, _⟩ := hp
  obtain ⟨ps, h1, h2, h3⟩ := t x hx
  refine ⟨ps, a.at_ (ne_of h1 e fun z => nomatch z) h1, h2, fun pos cv hc => ?_⟩
  obtain ⟨c, e1, e2⟩ := h3 pos cv hc
  exact ⟨c, e1, a.at_ (ne_of e2 e fun z => by unfold CodeO at z; cases z) e2⟩
theorem vals_fix {F : List Fm} {x : List Am} (h : Best F x) : valsL F x = x := by
  unfold valsL
  refine List.ext_getElem? fun u => ?_
  by_cases hu : u < F.length
  · rw [List.getElem?_map, List.getElem?_range hu]
    have := h.fix u hu
    show some (fv (fF F u) (xF x)) = x[u]?
    rw [← this]
    show some (x.getD u none) = _
    rw [getD_el _ _ _ (by rw [h.len]; exact hu), get_some (by rw [h.len]; exact hu)]
  · rw [List.getElem?_eq_none (by rw [List.length_map, List.length_range]; omega), List.getElem?_eq_none (by rw [h.len]; omega)]
theorem fix_vals {F : List Fm} {y : List Am} (h : valsL F y = y) : ∀ u, u < F.length → xF y u = fv (fF F u) (xF y) := fun u hu => by
  have e : (valsL F y)[u]? = some (fv (fF F u) (xF y)) := by
    unfold valsL
    rw [List.getElem?_map, List.getElem?_range hu]; rfl
  show y.getD u none = _
  rw [h] at e
  rw [List.getD_eq_getElem?_getD, e]; rfl
/-- a formula is an amount, a condition, or has arcs -/
theorem fm_cases (fm : Fm) : (∃ a, fm = .amt a) ∨ (∃ j a k, fm = .cnd j a k) ∨ ∃ (mk : List Arc → Fm) (l : List Arc) (x : Str), fm = mk l ∧ ¬ V.str x = .str "when" ∧ ¬ V.str x = .str "amount" ∧ word (mk l) = .str x ∧ (∀ n, norm n (mk l) = mk (l.map (normA n))) ∧ (Pre (mk l) → l.length ≤ 6) ∧
    ∀ (K : PySem.W.Frag) (H : Hp) (q : Addr) (l' : List Arc), FmAt K H q (mk l') ↔ ∃ r, SqT K H q [.str x, .ref r] ∧ ArcsAt K H r l' := by
  cases fm with
  | amt a => exact .inl ⟨a, rfl⟩
  | cnd j a k => exact .inr (.inl ⟨j, a, k, rfl⟩)
  | lst l => exact .inr (.inr ⟨.lst, l, "least", rfl, n_lw, n_la, rfl, fun _ => rfl, fun h => h.2, fun _ _ _ _ => Iff.rfl⟩)
  | gst l => exact .inr (.inr ⟨.gst, l, "greatest", rfl, n_gw, n_ga, rfl, fun _ => rfl, fun h => h.2, fun _ _ _ _ => Iff.rfl⟩)
section
variable {P : Program} {w : World} {K : PySem.W.Frag} {mg : Str → Option Value} {base : Heap} {f : Addr} {fd : FuncData}

-- law: slots 0 _law_script, 1 _law_pool_here, 2 _law_flat_here, 3 _law_many, 4 _law_k, 5 _law_j, 6 _law_c, 7 _law_x, 8 _law_other
abbrev s_law : Stmt := top 35
abbrev n_law : List Str := ["_law_script", "_law_pool_here", "_law_flat_here", "_law_many", "_law_k", "_law_j", "_law_c", "_law_x", "_law_other"]
theorem sc_law : FnScope n_law ["_law_script"] (defScope s_law) := ⟨rfl, rfl, rfl, by decide +kernel, rfl, by decide +kernel, by decide +kernel⟩
def spLaw (K : PySem.W.Frag) (tP : Addr) : Sp := fun vs H Q _ => ∃ (a : Addr) (ns : List Int), vs = [.ref a] ∧ SqL K H a (ns.map V.int) ∧ ns.length ≤ 63 ∧ Tabs (tbT tP) H ∧ ∀ H', Q (.bl true) H'
theorem ok_law {tP : Addr} (F : Fun K "law" "law" s_law f fd) (B : Blt mg) (h_law_stream : Has P w K mg base 2 "_law_stream" ["_law_script"] (spStream K))
    (h_law_flat : Has P w K mg base 3 "_law_flat" ["_law_pool_here", "_law_most", "_law_conditions"] (spFlat K)) (h_flat_least : Has P w K mg base 6 "flat_least" ["flat"] (spFlatLeast K tP))
    (h_law_are_amounts : Has P w K mg base 1 "_law_are_amounts" ["_law_value_here", "_law_many"] (spAre K)) (h_law_values : Has P w K mg base 4 "_law_values" ["_law_flat_here", "_law_x"] (spValues K))
    (h_law_box : Has P w K mg base 1 "_law_box" ["_law_many"] spBox) (h_law_at_most : Has P w K mg base 1 "_law_at_most" ["_law_a", "_law_b"] spAtMost) : FnOk P w K mg base CX0 7 f fd ["_law_script"] (spLaw K tP) := by
  refine F.ok sc_law (fun vs H Q E h => ?_) (fun cdv A outer s H vs Q E hr h => ?_)
  · obtain ⟨a, ns, rfl, _⟩ := h
    rfl
  · obtain ⟨a, ns, rfl, hS, hlen, hT, k⟩ := h
    refine ⟨_, (pss_cons (ps_set (i := 1) sc_law.nd rfl (Or.inl rfl) (pe_callH h_law_stream (hr.mono (by decide)) rfl (pa_cons (pv 0) pa_nil)))
      (pss_cons (ps_set (i := 2) sc_law.nd rfl (Or.inl rfl) (pe_slice sl_list (pe_callH h_law_flat (hr.mono (by decide)) rfl (pa_cons (pv 1) (pa_cons pe_int (pa_cons pe_bl pa_nil)))) po_none (po_some pe_int)))
      (pss_cons (ps_set (i := 3) sc_law.nd rfl (Or.inr rfl) (pe_callB call_len_seq (by rfl) B.len PySem.boot_len (pa_cons (pv 2) pa_nil)))
      (pss_cons (ps_for PassesOwn.never rfl (pi_range1 (by rfl) B.range (pa_cons (pv 3) pa_nil)) (pg_name (i := 4) sc_law.nd rfl (Or.inl rfl))
      (pss_one (ps_if (pt_cmpR op_eq (pe_ix (r := rIxT K) ix_tup (pe_ix (r := rIxL K) ix_list (pv 2) (pv 4) (fun _ _ => rfl)) pe_int (fun _ _ => rfl)) pe_str (nomark _))
        (pss_one (ps_asg (pe_tup (pa_cons pe_str (pa_cons (pe_op op_mod (pe_callTy call_int1 (by rfl) B.int (by decide +kernel) (pa_cons (pe_ix (r := rIxT K) ix_tup (pe_ix (r := rIxL K) ix_list (pv 2) (pv 4) (fun _ _ => rfl)) pe_int (fun _ _ => rfl)) pa_nil)) (pv 3)) (pa_cons (pe_ix (r := rIxT K) ix_tup (pe_ix (r := rIxL K) ix_list (pv 2) (pv 4) (fun _ _ => rfl)) pe_int (fun _ _ => rfl)) (pa_cons (pe_op op_mod (pe_callTy call_int1 (by rfl) B.int (by decide +kernel) (pa_cons (pe_ix (r := rIxT K) ix_tup (pe_ix (r := rIxL K) ix_list (pv 2) (pv 4) (fun _ _ => rfl)) pe_int (fun _ _ => rfl)) pa_nil)) (pv 3)) pa_nil))))) (pg_sub (pv 2) (pv 4) set_list)))
        (pss_one (ps_if (pt_cmpR op_ne (pe_ix (r := rIxT K) ix_tup (pe_ix (r := rIxL K) ix_list (pv 2) (pv 4) (fun _ _ => rfl)) pe_int (fun _ _ => rfl)) pe_str (nomark _))
          (pss_one (ps_asg (pe_tup (pa_cons (pe_ix (r := rIxT K) ix_tup (pe_ix (r := rIxL K) ix_list (pv 2) (pv 4) (fun _ _ => rfl)) pe_int (fun _ _ => rfl)) (pa_cons (pe_lc (own := [("_law_j", 5), ("_law_c", 6)]) (g := gTup K 2 (gCons (gName 5) (gCons (gName 6) gNil))) rfl sc_law.nd  (pi_list (pe_ix (r := rIxT K) ix_tup (pe_ix (r := rIxL K) ix_list (pv 2) (pv 4) (fun _ _ => rfl)) pe_int (fun _ _ => rfl))) (blkOk_by (N := n_law) (sc := defScope s_law) (by decide +kernel)) (fun _ _ _ _ _ => (pg_tup rfl (pgs_cons (pg_name (i := 5) sc_law.nd rfl (Or.inl rfl)) (pgs_cons (pg_name (i := 6) sc_law.nd rfl (Or.inl rfl)) pgs_nil)))) (fun _ _ _ _ _ => pts_nil) (fun _ _ _ _ _ => (pe_tup (pa_cons (pe_op op_mod (pe_callTy call_int1 (by rfl) B.int (by decide +kernel) (pa_cons (pv 5) pa_nil)) (pv 3)) (pa_cons (pv 6) pa_nil))))) pa_nil))) (pg_sub (pv 2) (pv 4) set_list)))
          pss_nil)))))
      (pss_cons (ps_set (i := 7) sc_law.nd rfl (Or.inr rfl) (pe_callH h_flat_least (hr.mono (by decide)) rfl (pa_cons (pv 2) pa_nil)))
      (pss_cons (ps_if (PW.pt (pw_or (pt_not (pt_val (pe_callH h_law_are_amounts (hr.mono (by decide)) rfl (pa_cons (pv 7) (pa_cons (pv 3) pa_nil))))) (pw_or1 (pt_cmpR (op_neD hr.units) (pe_callH h_law_values (hr.mono (by decide)) rfl (pa_cons (pv 2) (pa_cons (pv 7) pa_nil))) (pv 7) (nomark _)))))
      (pss_one (ps_ret pe_bl))
      pss_nil)
      (pss_cons (ps_for PassesOwn.never rfl (pi_list (pe_callH h_law_box (hr.mono (by decide)) rfl (pa_cons (pv 3) pa_nil))) (pg_name (i := 8) sc_law.nd rfl (Or.inr rfl))
      (pss_one (ps_if (PW.pt (pw_and (pt_cmpR (op_eqD hr.units) (pe_callH h_law_values (hr.mono (by decide)) rfl (pa_cons (pv 2) (pa_cons (pv 8) pa_nil))) (pv 8) (nomark _)) (pw_and1 (pt_not (pt_val (pe_callB (cr_all rfl) (by rfl) B.all (by decide +kernel) (pa_cons (pe_lc (own := [("_law_k", 4)]) (g := gName 4) rfl sc_law.nd  (pi_range1 (by rfl) B.range (pa_cons (pv 3) pa_nil)) (blkOk_by (N := n_law) (sc := defScope s_law) (by decide +kernel)) (fun _ _ _ _ _ => (pg_name (i := 4) sc_law.nd rfl (Or.inl rfl))) (fun _ _ _ _ _ => pts_nil) (fun _ _ _ _ _ => (pe_callH h_law_at_most (hr.mono (by decide)) rfl (pa_cons (pe_ix (r := rIxL K) ix_list (pv 7) (pv 4) (fun _ _ => rfl)) (pa_cons (pe_ix (r := rIxL K) ix_list (pv 8) (pv 4) (fun _ _ => rfl)) pa_nil))))) pa_nil)))))))
        (pss_one (ps_ret pe_bl))
        pss_nil)))
      (pss_one (ps_ret pe_bl))))))))), ?_⟩
    refine ⟨_, rfl, a, ns, rfl, hS, hlen, fun H1 p s1 hp hpl => ?_⟩
    refine ⟨_, rfl, p, rfl, hpl, fun H2 q0 F0 s2 hq0 hF0 f1 f11 hpre0 => ?_⟩
    have hT2 : Tabs (tbT tP) H2 := tabs_ps (tabs_same hT s1) hpl s2
    obtain ⟨ps0, hq1, hps0⟩ := hF0
    have lps0 := hps0.length
    refine ⟨4, rfl, q0, ps0.map V.ref, rfl, (del_same (D := p)).seq hq1, fun Df hDf => ?_⟩
    rw [cutV4, ← List.map_take]
    -- the sheet of at most four
    have hps : Paired (FmAt K H2) (ps0.take 4) (F0.take 4) := paired_take 4 (Paired.mapP hps0 fun _ _ z => fmS _ _ _ _ del_same z)
    have hn1 : 1 ≤ (F0.take 4).length := by rw [List.length_take]; omega
    have hn4 : (F0.take 4).length ≤ 4 := by rw [List.length_take]; omega
    have hpre : ∀ g, g ∈ F0.take 4 → Pre g := fun g hg => hpre0 g (List.mem_of_mem_take hg)
    generalize F0.take 4 = F at hps hn1 hn4 hpre
    generalize ps0.take 4 = ps at hps
    have lps : (ps.map V.ref).length = F.length := by rw [List.length_map, hps.length]
    have s3 := same_new (o := .lst (ps.map V.ref)) hDf
    refine ⟨_, rfl, Df, _, rfl, .inl (SqL.of upd_same), ?_⟩
    rw [lps]
    refine ⟨_, rfl, _, rfl, (by show -(2 ^ 62 : Int) ≤ (F.length : Int); omega), (by show (F.length : Int) < 2 ^ 62; omega), ?_⟩
    refine for_range0 (n := F.length) (fun i σ H' => ∃ (rs : List Addr) (v4 v5 v6 : Option V), Same H2 (del H' Df) ∧ H' Df = some (.lst (rs.map V.ref)) ∧ Paired (FmAt K (del H' Df)) rs (mix F.length i F) ∧ Tabs (tbT tP) H' ∧
        σ = [some (.ref a), some (.ref p), some (.ref Df), some (vN F.length), v4, v5, v6, none, none])
      ⟨ps, none, none, none, same_del hDf s3, upd_same, by rw [mix_zero]; exact Paired.mapP hps fun _ _ z => fmS _ _ _ _ (same_del hDf s3) z, tabs_same hT2 s3, rfl⟩ ?_ ?_
    · rintro i σ H4 hi ⟨rs, v4, v5, v6, s4, hD4, hpr, hT4, rfl⟩
      have lrs : rs.length = F.length := by rw [hpr.length, mix_len]
      have hmi := mix_at (i := i) (F := F) hi
      rw [if_neg (by omega)] at hmi
      obtain ⟨g, eg, hg⟩ := paired_at hpr hmi
      have hat : atI (rs.map V.ref) (i : Int) = some (.ref g) := atI_nat (by rw [List.getElem?_map, eg]; rfl)
      have ixi : ixN (rs.map V.ref).length (i : Int) = some i := ixN_nat (by rw [List.length_map]; omega)
      have hg4 := fmS _ _ _ _ (del_same (D := Df)) hg
      obtain ⟨ws, hw1, hw2⟩ := word_at hg4
      refine ⟨_, rfl, _, rfl, Df, _, _, _, rfl, rfl, SqL.of hD4, hat, g, _, 0, _, rfl, rfl, hw1, hw2, word_scal _ _, _, rfl, ?_⟩
      have again : ∀ (H5 : Hp) (T : Addr), Same H4 H5 → T ≠ Df → FmAt K (del H5 Df) T (norm F.length (fF F i)) →
          Same H2 (del (upd H5 Df (.lst ((rs.map V.ref).set i (.ref T)))) Df) ∧ upd H5 Df (.lst ((rs.map V.ref).set i (.ref T))) Df = some (.lst ((rs.set i T).map V.ref)) ∧
          Paired (FmAt K (del (upd H5 Df (.lst ((rs.map V.ref).set i (.ref T)))) Df)) (rs.set i T) (mix F.length (i + 1) F) ∧ Tabs (tbT tP) (upd H5 Df (.lst ((rs.map V.ref).set i (.ref T)))) := by
        intro H5 T s5 nT hT5
        rw [del_upd]
        refine ⟨s4.trans (del_mono s5), by rw [upd_same, List.map_set], ?_, tabs_updL (s5 _ _ hD4) (tabs_same hT4 s5)⟩
        rw [mix_more hi]
        exact paired_set hT5 i (Paired.mapP hpr fun _ _ z => fmS _ _ _ _ (del_mono s5) z)
      have pos : (0 : Int) < (F.length : Int) := by omega
      rcases fm_cases (fF F i) with ⟨x, e⟩ | ⟨j, x, c, e⟩ | ⟨mk, l, wd, e, nw, na, ew, en, el6, eF⟩
      · -- an amount
        rw [e] at hw2 ⊢
        refine iteDF n_aw ⟨_, rfl, _, rfl, Df, _, _, _, rfl, rfl, SqL.of hD4, hat, g, _, 0, _, rfl, rfl, hw1, hw2, rfl, _, rfl, iteNT rfl ?_⟩
        exact ⟨rs, _, _, _, s4, hD4, by rw [mix_same hi (by rw [e]; rfl)]; exact hpr, hT4, rfl⟩
      · -- a condition
        rw [e] at hg4 again ⊢
        have hgc : SqT K H4 g [.str "when", vN j, vN x, vN c] := hg4
        refine iteDT rfl ?_
        refine ⟨_, rfl, _, rfl, Df, _, _, _, rfl, rfl, SqL.of hD4, hat, g, _, 1, _, rfl, rfl, hgc, atI_nat (j := 1) rfl, .inl ⟨_, rfl, _, rfl, _, _, rfl, rfl, pos, ?_⟩⟩
        refine ⟨_, rfl, _, rfl, Df, _, _, _, rfl, rfl, SqL.of hD4, hat, g, _, 2, _, rfl, rfl, hgc, atI_nat (j := 2) rfl, ?_⟩
        refine ⟨_, rfl, _, rfl, Df, _, _, _, rfl, rfl, SqL.of hD4, hat, g, _, 3, _, rfl, rfl, hgc, atI_nat (j := 3) rfl, .inl ⟨_, rfl, _, rfl, _, _, rfl, rfl, pos, (by show 4 ≤ sizeLine; decide), fun T hT => ?_⟩⟩
        have sT := same_new (o := .tup [.str "when", vN (j % F.length), vN x, vN (c % F.length)]) hT
        have nT : T ≠ Df := fun z => by rw [z, hD4] at hT; cases hT
        obtain ⟨r1, r2, r3, r4⟩ := again _ T sT nT (SqT.of ((del_ne nT).trans upd_same))
        exact ⟨_, rfl, _, rfl, Df, _, _, i, rfl, rfl, sT _ _ hD4, ixi, rs.set i T, _, _, _, r1, r2, r3, r4, rfl⟩
      · -- arcs
        rw [e, ew] at hw2 ⊢
        rw [e] at hg4 again
        rw [en] at again
        obtain ⟨r, hgl, hrl⟩ := (eF _ _ _ _).mp hg4
        obtain ⟨as, ha, has⟩ := hrl
        have las := has.length
        refine iteDF nw ⟨_, rfl, _, rfl, Df, _, _, _, rfl, rfl, SqL.of hD4, hat, g, _, 0, _, rfl, rfl, hw1, hw2, rfl, _, rfl, iteND na ?_⟩
        refine ⟨_, rfl, _, rfl, Df, _, _, _, rfl, rfl, SqL.of hD4, hat, g, _, 0, _, rfl, rfl, hw1, hw2, ?_⟩
        refine ⟨_, rfl, _, rfl, Df, _, _, _, rfl, rfl, SqL.of hD4, hat, g, _, 1, _, rfl, rfl, hgl, atI_nat (j := 1) rfl, r, rfl, ⟨_, ha⟩, fun D hD => lc_list (K := K) (a := r) (xs := as.map V.ref)
          (fun j H' => Same H4 H' ∧ ∃ qs : List Addr, H' D = some (.lst (qs.map V.ref)) ∧ Paired (ArcAt K H') qs ((l.take j).map (normA F.length))) ⟨same_new hD, [], upd_same, .nil⟩ (fun j H' _ h => h.1.seq ha) ?_ ?_⟩
        · rintro j y H5 hj ⟨s5, qs, hD5, hqs⟩
          rw [List.getElem?_map] at hj
          cases ej : as[j]? with
          | none => rw [ej] at hj; cases hj
          | some pa =>
            rw [ej] at hj
            have hy : V.ref pa = y := Option.some.inj hj
            subst hy
            obtain ⟨⟨t, sf⟩, ea, ra⟩ := paired_at1 has ej
            refine ⟨pa, _, rfl, sqT_same s5 ra, rfl, _, _, rfl, _, _, rfl, rfl, rfl, ?_⟩
            refine ⟨_, rfl, .inl ⟨_, rfl, _, rfl, _, _, rfl, rfl, pos, _, rfl, (by show 2 ≤ sizeLine; decide), fun T hT => ?_⟩⟩
            have sT := same_new (o := .tup [vN (t % F.length), .int sf]) hT
            have hD6 := sT _ _ hD5
            refine ⟨_, hD6, ?_, same_upd (s5.trans sT) hD, qs ++ [T], ?_, ?_⟩
            · rw [List.length_map, hqs.length, List.length_map, List.length_take]
              have := hpre (fF F i) (List.mem_of_getElem? (fF_at hi))
              have l6 : l.length ≤ 6 := by
                rw [e] at this
                exact el6 this
              exact line_of (m := 6) (by omega) (by omega)
            · rw [List.map_append]; exact upd_same
            · rw [take_more ea, List.map_append]
              exact Paired.snoc (Paired.mapP hqs fun _ _ z => sqT_updL hD6 (sqT_same sT z)) (sqT_updL hD6 (SqT.of upd_same))
        · rintro H5 ⟨s5, qs, hD5, hqs⟩
          rw [List.length_map, las, List.take_length] at hqs
          refine ⟨(by show 2 ≤ sizeLine; decide), fun T hT => ?_⟩
          have sT := same_new (o := .tup [.str wd, .ref D]) hT
          have hDf5 := s5 _ _ hD4
          have hDf6 := sT _ _ hDf5
          have nT : T ≠ Df := fun z => by rw [z, hDf5] at hT; cases hT
          have nD : D ≠ Df := fun z => by rw [z, hD4] at hD; cases hD
          obtain ⟨r1, r2, r3, r4⟩ := again _ T (s5.trans sT) nT ((eF _ _ _ _).mpr ⟨D, SqT.of ((del_ne nT).trans upd_same), qs, SqL.of ((del_ne nD).trans (sT _ _ hD5)), Paired.mapP hqs fun _ _ z => sqT_del hDf6 (sqT_same sT z)⟩)
          exact ⟨_, rfl, _, rfl, Df, _, _, i, rfl, rfl, hDf6, ixi, rs.set i T, _, _, _, r1, r2, r3, r4, rfl⟩
    · -- the least solution, looked at
      rintro σ H4 ⟨rs, v4, v5, v6, s4, hD4, hpr, hT4, rfl⟩
      have hfl := flat_mix hn1 hn4 hpre
      have hml := mix_len F.length F.length F
      have hSh : ShAt K H4 Df (mix F.length F.length F) := ⟨rs, SqL.of hD4, Paired.mapP hpr fun _ _ z => fmS _ _ _ _ del_same z⟩
      generalize mix F.length F.length F = FN at hfl hml hSh
      refine ⟨_, rfl, Df, FN, rfl, hSh, hfl, hT4, fun H5 q x e5 hx hb => ?_⟩
      have hSh5 := ShAt.ext e5 hSh
      have lx := hb.len
      refine ⟨_, rfl, _, rfl, q, x, by rw [lx, hml]; rfl, hx, _, rfl, ?_⟩
      refine iteF ⟨_, rfl, _, rfl, Df, q, FN, x, rfl, hSh5, hx, lx, hfl, fun H6 r s6 _ hr6 => ?_⟩
      refine ⟨_, rfl, _, _, dp_list (SqL.of hr6), dp_list (s6.seq hx), shaped_dA _, shaped_dA _, _, rfl, ?_⟩
      rw [eqv_lists]
      refine iteNT (vals_fix hb) ?_
      -- the box
      refine ⟨_, rfl, F.length, rfl, hn1, hn4, fun H7 qb rb yss s7 hqb hrb hyl => ?_⟩
      have s57 := s6.trans s7
      refine ⟨qb, rfl, ⟨_, SqL.of hqb⟩, for_list (K := K) (a := qb) (xs := rb.map V.ref) (fun i σ H' => ∃ v4 v5 v6 v8, Same H7 H' ∧ σ = [some (.ref a), some (.ref p), some (.ref Df), some (vN F.length), v4, v5, v6, some (.ref q), v8])
        ⟨v4, v5, v6, none, Same.refl _, rfl⟩ (fun i σ H' _ ⟨_, _, _, _, sm, _⟩ => SqL.of (sm _ _ hqb)) ?_ ?_⟩
      · rintro i y σ H8 hi ⟨v4, v5, v6, v8, s8, rfl⟩
        rw [List.getElem?_map] at hi
        cases ei : rb[i]? with
        | none => rw [ei] at hi; cases hi
        | some ro =>
          rw [ei] at hi
          have hy : V.ref ro = y := Option.some.inj hi
          subst hy
          obtain ⟨ys, ey, hys⟩ := paired_at1 hrb ei
          have ly : ys.length = F.length := hyl ys (List.mem_of_getElem? ey)
          have hys8 : H8 ro = some (.lst (ys.map vA)) := s8 _ _ hys
          have s58 := s57.trans s8
          refine ⟨_, rfl, _, rfl, Df, ro, FN, ys, rfl, ShAt.ext (exN s58) hSh5, SqL.of hys8, by rw [ly, hml], hfl, fun H9 r9 s9 _ hr9 => ?_⟩
          refine ⟨_, rfl, _, _, dp_list (SqL.of hr9), dp_list (SqL.of (s9 _ _ hys8)), shaped_dA _, shaped_dA _, _, rfl, ?_⟩
          rw [eqv_lists]
          refine ite2 (fun c => ?_) (fun c => iteF ⟨_, _, _, _, s8.trans s9, rfl⟩)
          have c := of_decide_eq_true c
          have hle := hb.least (xF ys) (fix_vals c)
          have s59 := s58.trans s9
          refine ⟨_, rfl, _, rfl, (by show -(2 ^ 62 : Int) ≤ (F.length : Int); omega), (by show (F.length : Int) < 2 ^ 62; omega), fun D hD => lc_range0 (n := F.length)
            (fun j H' => Same H9 H' ∧ H' D = some (.lst ((List.replicate j true).map V.bl))) ⟨same_new hD, upd_same⟩ ?_ ?_⟩
          · rintro j H10 hj ⟨s10, hD10⟩
            refine ⟨rfl, _, rfl, _, rfl, q, _, _, _, rfl, rfl, (s59.trans s10).seq hx, at_vA (by omega), _, rfl, _, rfl, ro, _, _, _, rfl, rfl, SqL.of (s10 _ _ (s9 _ _ hys8)), at_vA (by omega), _, _, rfl, _, hD10, ?_, same_upd s10 hD, ?_⟩
            · rw [List.length_map, List.length_replicate]
              exact line_of (m := 4) (by omega) (by omega)
            · have ej : decide (le (x.getD j none) (ys.getD j none)) = true := decide_eq_true (hle j (by omega))
              rw [ej, rep_more, List.map_append]; exact upd_same
          · rintro H10 ⟨s10, hD10⟩
            refine ⟨D, _, rfl, SqL.of hD10, _, rfl, ?_⟩
            have et : (List.replicate F.length true).all id = true := by simp
            rw [et]
            exact iteF ⟨_, _, _, _, (s8.trans s9).trans s10, rfl⟩
      · rintro σ H8 ⟨v4, v5, v6, v8, s8, rfl⟩
        exact k _
end
end WK

/-! the end: what the top has written, and the head -/
namespace WK
open PySem PySem.Spec PyProof.Rows L2 LamX CS
/-- a def of the top: its name's value, its text -/
def Def (K : PySem.W.Frag) (x : Str) (st : Stmt) : Prop := ∃ (f : Addr) (fd : FuncData), PySem.W.nsIn K mainGlobals x = some (some (.ref f)) ∧ Fun K x x st f fd
theorem def_mk {K : PySem.W.Frag} {x : Str} {st : Stmt} {f : Addr} {oc : Value} {od an : Option Addr} {osl : Array (Option Value)} {kV doc pm cdv ct : Value} (a : PySem.W.nsIn K mainGlobals x = some (some (.ref f)))
    (l : K.lookup f = some ⟨oc, od, .func (PySem.W.fnOf x x (defArgs st) (defBody st) (defScope st) .none kV doc pm an cdv ct), osl⟩) (c : PySem.W.codeIn K cdv x = true) (k : PySem.W.keepIn K (.ref f) = true) : Def K x st := ⟨f, _, a, fun_mk l c k⟩
/-- .. its code object told, the table of which is empty -/
def DefC (K : PySem.W.Frag) (x : Str) (st : Stmt) (tc : Addr) : Prop := ∃ (f : Addr) (fd : FuncData), PySem.W.nsIn K mainGlobals x = some (some (.ref f)) ∧ Fun K x x st f fd ∧ fd.code = .ref tc
theorem defC_mk {K : PySem.W.Frag} {x : Str} {st : Stmt} {f tc : Addr} {oc : Value} {od an : Option Addr} {osl : Array (Option Value)} {kV doc pm ct : Value} (a : PySem.W.nsIn K mainGlobals x = some (some (.ref f)))
    (l : K.lookup f = some ⟨oc, od, .func (PySem.W.fnOf x x (defArgs st) (defBody st) (defScope st) .none kV doc pm an (.ref tc) ct), osl⟩) (c : PySem.W.codeIn K (.ref tc) x = true) (k : PySem.W.keepIn K (.ref f) = true) : DefC K x st tc := ⟨f, _, a, fun_mk l c k, rfl⟩

structure Top (K : PySem.W.Frag) (tc : Addr) : Prop where
  d_at_most : Def K "at_most" s_at_most
  d_least_of : Def K "least_of" s_least_of
  d_greatest_of : Def K "greatest_of" s_greatest_of
  d_shifted : Def K "shifted" s_shifted
  d_flat_value : Def K "flat_value" s_flat_value
  d_arcs_of : Def K "arcs_of" s_arcs_of
  d_conditions_of : Def K "conditions_of" s_conditions_of
  d_opened : Def K "opened" s_opened
  d_told_arcs : Def K "told_arcs" s_told_arcs
  d_circle_below : Def K "circle_below" s_circle_below
  d_nought_cell : Def K "nought_cell" s_nought_cell
  d_rounds_down : Def K "rounds_down" s_rounds_down
  d_least_with : DefC K "least_with" s_least_with tc
  d_settled_least : Def K "settled_least" s_settled_least
  d_fulfilled : Def K "fulfilled" s_fulfilled
  d_stages_from_below : Def K "stages_from_below" s_stages_from_below
  d_flat_least : Def K "flat_least" s_flat_least
  d_law_pool : Def K "_law_pool" s_law_pool
  d_law_stream : Def K "_law_stream" s_law_stream
  d_law_pick : Def K "_law_pick" s_law_pick
  d_law_amount : Def K "_law_amount" s_law_amount
  d_law_arcs : Def K "_law_arcs" s_law_arcs
  d_law_flat : Def K "_law_flat" s_law_flat
  d_law_are_amounts : Def K "_law_are_amounts" s_law_are_amounts
  d_law_shifted : Def K "_law_shifted" s_law_shifted
  d_law_at_most : Def K "_law_at_most" s_law_at_most
  d_law_one_of : Def K "_law_one_of" s_law_one_of
  d_law_value : Def K "_law_value" s_law_value
  d_law_values : Def K "_law_values" s_law_values
  d_law_box : Def K "_law_box" s_law_box
  d_law : Def K "law" s_law
  z_len : PySem.W.nsIn K mainGlobals "len" = some none
  z_range : PySem.W.nsIn K mainGlobals "range" = some none
  z_max : PySem.W.nsIn K mainGlobals "max" = some none
  z_min : PySem.W.nsIn K mainGlobals "min" = some none
  z_int : PySem.W.nsIn K mainGlobals "int" = some none
  z_list : PySem.W.nsIn K mainGlobals "list" = some none
  z_enumerate : PySem.W.nsIn K mainGlobals "enumerate" = some none
  z_all : PySem.W.nsIn K mainGlobals "all" = some none
  z_isinstance : PySem.W.nsIn K mainGlobals "isinstance" = some none
  z_bool : PySem.W.nsIn K mainGlobals "bool" = some none

theorem law_at {l : PySem.W.OpenLaw} {w : World} {K : PySem.W.Frag} {h : Heap} {mg : Str → Option Value} {fa tc tP : Addr} (X : K.In h) (G : h.Ns mainGlobals mg) (hfa : mg "law" = some (.ref fa)) (T : Top K tc)
    (hP : h.get? tP = some { cls := .none, data := .fields #[] }) (nP : K.lookup tP = none) (hC : PySem.W.CodeHd h tc tP) : LawAtS l w K CX0 7 63 "_law_script" mg fa h := by
  have B : Blt mg := ⟨PySem.W.mg_none_of X G T.z_len, PySem.W.mg_none_of X G T.z_range, PySem.W.mg_none_of X G T.z_max, PySem.W.mg_none_of X G T.z_min, PySem.W.mg_none_of X G T.z_int, PySem.W.mg_none_of X G T.z_list, PySem.W.mg_none_of X G T.z_enumerate, PySem.W.mg_none_of X G T.z_all, PySem.W.mg_none_of X G T.z_isinstance, PySem.W.mg_none_of X G T.z_bool⟩
  obtain ⟨f_at_most, fd_at_most, a_at_most, F_at_most⟩ := T.d_at_most
  have b_at_most : Binds K fd_at_most ["a", "b"] [] := F_at_most.binds fun _ _ _ _ _ _ us hl => match us, hl with | [_, _], _ => rfl
  obtain ⟨f_least_of, fd_least_of, a_least_of, F_least_of⟩ := T.d_least_of
  have b_least_of : Binds K fd_least_of ["amounts"] [] := F_least_of.binds fun _ _ _ _ _ _ us hl => match us, hl with | [_], _ => rfl
  obtain ⟨f_greatest_of, fd_greatest_of, a_greatest_of, F_greatest_of⟩ := T.d_greatest_of
  have b_greatest_of : Binds K fd_greatest_of ["amounts"] [] := F_greatest_of.binds fun _ _ _ _ _ _ us hl => match us, hl with | [_], _ => rfl
  obtain ⟨f_shifted, fd_shifted, a_shifted, F_shifted⟩ := T.d_shifted
  have b_shifted : Binds K fd_shifted ["a", "c"] [] := F_shifted.binds fun _ _ _ _ _ _ us hl => match us, hl with | [_, _], _ => rfl
  obtain ⟨f_flat_value, fd_flat_value, a_flat_value, F_flat_value⟩ := T.d_flat_value
  have b_flat_value : Binds K fd_flat_value ["formula", "x"] [] := F_flat_value.binds fun _ _ _ _ _ _ us hl => match us, hl with | [_, _], _ => rfl
  obtain ⟨f_arcs_of, fd_arcs_of, a_arcs_of, F_arcs_of⟩ := T.d_arcs_of
  have b_arcs_of : Binds K fd_arcs_of ["flat", "cell"] [] := F_arcs_of.binds fun _ _ _ _ _ _ us hl => match us, hl with | [_, _], _ => rfl
  obtain ⟨f_conditions_of, fd_conditions_of, a_conditions_of, F_conditions_of⟩ := T.d_conditions_of
  have b_conditions_of : Binds K fd_conditions_of ["flat"] [] := F_conditions_of.binds fun _ _ _ _ _ _ us hl => match us, hl with | [_], _ => rfl
  obtain ⟨f_opened, fd_opened, a_opened, F_opened⟩ := T.d_opened
  have b_opened : Binds K fd_opened ["flat", "places"] [] := F_opened.binds fun _ _ _ _ _ _ us hl => match us, hl with | [_, _], _ => rfl
  obtain ⟨f_told_arcs, fd_told_arcs, a_told_arcs, F_told_arcs⟩ := T.d_told_arcs
  have b_told_arcs : Binds K fd_told_arcs ["plain", "choices", "word"] [] := F_told_arcs.binds fun _ _ _ _ _ _ us hl => match us, hl with | [_, _, _], _ => rfl
  obtain ⟨f_circle_below, fd_circle_below, a_circle_below, F_circle_below⟩ := T.d_circle_below
  have b_circle_below : Binds K fd_circle_below ["arcs", "weight"] [] := F_circle_below.binds fun _ _ _ _ _ _ us hl => match us, hl with | [_, _], _ => rfl
  obtain ⟨f_nought_cell, fd_nought_cell, a_nought_cell, F_nought_cell⟩ := T.d_nought_cell
  have b_nought_cell : Binds K fd_nought_cell ["circle"] [] := F_nought_cell.binds fun _ _ _ _ _ _ us hl => match us, hl with | [_], _ => rfl
  obtain ⟨f_rounds_down, fd_rounds_down, a_rounds_down, F_rounds_down⟩ := T.d_rounds_down
  have b_rounds_down : Binds K fd_rounds_down ["plain", "arcs", "noughts"] [] := F_rounds_down.binds fun _ _ _ _ _ _ us hl => match us, hl with | [_, _, _], _ => rfl
  obtain ⟨f_least_with, fd_least_with, a_least_with, F_least_with, C_least_with⟩ := T.d_least_with
  have b_least_with : Binds K fd_least_with ["plain", "choices"] [] := F_least_with.binds fun _ _ _ _ _ _ us hl => match us, hl with | [_, _], _ => rfl
  obtain ⟨f_settled_least, fd_settled_least, a_settled_least, F_settled_least⟩ := T.d_settled_least
  have b_settled_least : Binds K fd_settled_least ["plain"] [] := F_settled_least.binds fun _ _ _ _ _ _ us hl => match us, hl with | [_], _ => rfl
  obtain ⟨f_fulfilled, fd_fulfilled, a_fulfilled, F_fulfilled⟩ := T.d_fulfilled
  have b_fulfilled : Binds K fd_fulfilled ["flat", "x"] [] := F_fulfilled.binds fun _ _ _ _ _ _ us hl => match us, hl with | [_, _], _ => rfl
  obtain ⟨f_stages_from_below, fd_stages_from_below, a_stages_from_below, F_stages_from_below⟩ := T.d_stages_from_below
  have b_stages_from_below : Binds K fd_stages_from_below ["flat"] [] := F_stages_from_below.binds fun _ _ _ _ _ _ us hl => match us, hl with | [_], _ => rfl
  obtain ⟨f_flat_least, fd_flat_least, a_flat_least, F_flat_least⟩ := T.d_flat_least
  have b_flat_least : Binds K fd_flat_least ["flat"] [] := F_flat_least.binds fun _ _ _ _ _ _ us hl => match us, hl with | [_], _ => rfl
  obtain ⟨f_law_pool, fd_law_pool, a_law_pool, F_law_pool⟩ := T.d_law_pool
  have b_law_pool : Binds K fd_law_pool ["_law_script"] [] := F_law_pool.binds fun _ _ _ _ _ _ us hl => match us, hl with | [_], _ => rfl
  obtain ⟨f_law_stream, fd_law_stream, a_law_stream, F_law_stream⟩ := T.d_law_stream
  have b_law_stream : Binds K fd_law_stream ["_law_script"] [] := F_law_stream.binds fun _ _ _ _ _ _ us hl => match us, hl with | [_], _ => rfl
  obtain ⟨f_law_pick, fd_law_pick, a_law_pick, F_law_pick⟩ := T.d_law_pick
  have b_law_pick : Binds K fd_law_pick ["_law_pool_here", "_law_many"] [] := F_law_pick.binds fun _ _ _ _ _ _ us hl => match us, hl with | [_, _], _ => rfl
  obtain ⟨f_law_amount, fd_law_amount, a_law_amount, F_law_amount⟩ := T.d_law_amount
  have b_law_amount : Binds K fd_law_amount ["_law_pool_here"] [] := F_law_amount.binds fun _ _ _ _ _ _ us hl => match us, hl with | [_], _ => rfl
  obtain ⟨f_law_arcs, fd_law_arcs, a_law_arcs, F_law_arcs⟩ := T.d_law_arcs
  have b_law_arcs : Binds K fd_law_arcs ["_law_pool_here", "_law_many"] [] := F_law_arcs.binds fun _ _ _ _ _ _ us hl => match us, hl with | [_, _], _ => rfl
  obtain ⟨f_law_flat, fd_law_flat, a_law_flat, F_law_flat⟩ := T.d_law_flat
  have b_law_flat : Binds K fd_law_flat ["_law_pool_here", "_law_most", "_law_conditions"] [] := F_law_flat.binds fun _ _ _ _ _ _ us hl => match us, hl with | [_, _, _], _ => rfl
  obtain ⟨f_law_are_amounts, fd_law_are_amounts, a_law_are_amounts, F_law_are_amounts⟩ := T.d_law_are_amounts
  have b_law_are_amounts : Binds K fd_law_are_amounts ["_law_value_here", "_law_many"] [] := F_law_are_amounts.binds fun _ _ _ _ _ _ us hl => match us, hl with | [_, _], _ => rfl
  obtain ⟨f_law_shifted, fd_law_shifted, a_law_shifted, F_law_shifted⟩ := T.d_law_shifted
  have b_law_shifted : Binds K fd_law_shifted ["_law_a", "_law_c"] [] := F_law_shifted.binds fun _ _ _ _ _ _ us hl => match us, hl with | [_, _], _ => rfl
  obtain ⟨f_law_at_most, fd_law_at_most, a_law_at_most, F_law_at_most⟩ := T.d_law_at_most
  have b_law_at_most : Binds K fd_law_at_most ["_law_a", "_law_b"] [] := F_law_at_most.binds fun _ _ _ _ _ _ us hl => match us, hl with | [_, _], _ => rfl
  obtain ⟨f_law_one_of, fd_law_one_of, a_law_one_of, F_law_one_of⟩ := T.d_law_one_of
  have b_law_one_of : Binds K fd_law_one_of ["_law_amounts", "_law_kind"] [] := F_law_one_of.binds fun _ _ _ _ _ _ us hl => match us, hl with | [_, _], _ => rfl
  obtain ⟨f_law_value, fd_law_value, a_law_value, F_law_value⟩ := T.d_law_value
  have b_law_value : Binds K fd_law_value ["_law_formula", "_law_x"] [] := F_law_value.binds fun _ _ _ _ _ _ us hl => match us, hl with | [_, _], _ => rfl
  obtain ⟨f_law_values, fd_law_values, a_law_values, F_law_values⟩ := T.d_law_values
  have b_law_values : Binds K fd_law_values ["_law_flat_here", "_law_x"] [] := F_law_values.binds fun _ _ _ _ _ _ us hl => match us, hl with | [_, _], _ => rfl
  obtain ⟨f_law_box, fd_law_box, a_law_box, F_law_box⟩ := T.d_law_box
  have b_law_box : Binds K fd_law_box ["_law_many"] [] := F_law_box.binds fun _ _ _ _ _ _ us hl => match us, hl with | [_], _ => rfl
  obtain ⟨f_law, fd_law, a_law, F_law⟩ := T.d_law
  have b_law : Binds K fd_law ["_law_script"] [] := F_law.binds fun _ _ _ _ _ _ us hl => match us, hl with | [_], _ => rfl
  have e := hfa.symm.trans (PySem.W.mg_of X G a_law)
  cases e
  refine ⟨fd_law, [(tc, tP)], spLaw K tP, fun p hp => by rw [List.mem_singleton.mp hp]; exact hP, fun p hp => by rw [List.mem_singleton.mp hp]; exact nP, fun p hp => by rw [List.mem_singleton.mp hp]; exact hC, fun s u => ?_, fun H a ns hl _ hT hS => ?_, fun base _ _ hTB => ?_⟩
  · obtain ⟨oc, od, kV, doc, pm, an, cdv, ct, osl, efd, _, _⟩ := F_law.ex
    subst efd
    exact .of_eq rfl
  · exact ⟨a, ns, rfl, hS, hl, fun p hp => by rw [List.mem_singleton.mp hp]; exact TabS.nil (hT (tc, tP) (List.mem_singleton.mpr rfl)), fun _ => rfl⟩
  · have TB : TabB base mg tc tP := hTB (tc, tP) (List.mem_singleton.mpr rfl)
    have h_at_most : Has l.prog w K mg base 1 "at_most" ["a", "b"] spAtMost := ⟨f_at_most, fd_at_most, PySem.W.mg_of X G a_at_most, F_at_most.kp, b_at_most, ok_at_most F_at_most ⟩
    have h_least_of : Has l.prog w K mg base 2 "least_of" ["amounts"] (spLeastOf K) := ⟨f_least_of, fd_least_of, PySem.W.mg_of X G a_least_of, F_least_of.kp, b_least_of, ok_least_of F_least_of h_at_most⟩
    have h_greatest_of : Has l.prog w K mg base 2 "greatest_of" ["amounts"] (spGreatestOf K) := ⟨f_greatest_of, fd_greatest_of, PySem.W.mg_of X G a_greatest_of, F_greatest_of.kp, b_greatest_of, ok_greatest_of F_greatest_of h_at_most⟩
    have h_shifted : Has l.prog w K mg base 1 "shifted" ["a", "c"] spShifted := ⟨f_shifted, fd_shifted, PySem.W.mg_of X G a_shifted, F_shifted.kp, b_shifted, ok_shifted F_shifted B⟩
    have h_flat_value : Has l.prog w K mg base 3 "flat_value" ["formula", "x"] (spFlatValue K) := ⟨f_flat_value, fd_flat_value, PySem.W.mg_of X G a_flat_value, F_flat_value.kp, b_flat_value, ok_flat_value F_flat_value h_at_most h_shifted h_least_of h_greatest_of⟩
    have h_arcs_of : Has l.prog w K mg base 1 "arcs_of" ["flat", "cell"] (spArcsOf K) := ⟨f_arcs_of, fd_arcs_of, PySem.W.mg_of X G a_arcs_of, F_arcs_of.kp, b_arcs_of, ok_arcs_of F_arcs_of B⟩
    have h_conditions_of : Has l.prog w K mg base 1 "conditions_of" ["flat"] (spConditions K) := ⟨f_conditions_of, fd_conditions_of, PySem.W.mg_of X G a_conditions_of, F_conditions_of.kp, b_conditions_of, ok_conditions_of F_conditions_of B⟩
    have h_opened : Has l.prog w K mg base 1 "opened" ["flat", "places"] (spOpened K) := ⟨f_opened, fd_opened, PySem.W.mg_of X G a_opened, F_opened.kp, b_opened, ok_opened F_opened B⟩
    have h_told_arcs : Has l.prog w K mg base 2 "told_arcs" ["plain", "choices", "word"] (spTold K) := ⟨f_told_arcs, fd_told_arcs, PySem.W.mg_of X G a_told_arcs, F_told_arcs.kp, b_told_arcs, ok_told_arcs F_told_arcs B h_arcs_of⟩
    have h_nought_cell : Has l.prog w K mg base 1 "nought_cell" ["circle"] (spNought K) := ⟨f_nought_cell, fd_nought_cell, PySem.W.mg_of X G a_nought_cell, F_nought_cell.kp, b_nought_cell, ok_nought_cell F_nought_cell B⟩
    have h_rounds_down : Has l.prog w K mg base 2 "rounds_down" ["plain", "arcs", "noughts"] (spRounds K) := ⟨f_rounds_down, fd_rounds_down, PySem.W.mg_of X G a_rounds_down, F_rounds_down.kp, b_rounds_down, ok_rounds_down F_rounds_down B h_at_most h_shifted⟩
    have h_least_with : Has l.prog w K mg base 3 "least_with" ["plain", "choices"] (spLeastWith K tP) := ⟨f_least_with, fd_least_with, PySem.W.mg_of X G a_least_with, F_least_with.kp, b_least_with, ok_least_with F_least_with C_least_with TB B h_told_arcs h_rounds_down h_nought_cell F_circle_below (PySem.W.mg_of X G a_circle_below) b_circle_below⟩
    have h_settled_least : Has l.prog w K mg base 4 "settled_least" ["plain"] (spSettled K tP) := ⟨f_settled_least, fd_settled_least, PySem.W.mg_of X G a_settled_least, F_settled_least.kp, b_settled_least, ok_settled_least F_settled_least B h_least_with h_shifted h_at_most h_flat_value⟩
    have h_fulfilled : Has l.prog w K mg base 2 "fulfilled" ["flat", "x"] (spFulfilled K) := ⟨f_fulfilled, fd_fulfilled, PySem.W.mg_of X G a_fulfilled, F_fulfilled.kp, b_fulfilled, ok_fulfilled F_fulfilled B h_conditions_of h_at_most⟩
    have h_stages_from_below : Has l.prog w K mg base 5 "stages_from_below" ["flat"] (spStages K tP) := ⟨f_stages_from_below, fd_stages_from_below, PySem.W.mg_of X G a_stages_from_below, F_stages_from_below.kp, b_stages_from_below, ok_stages F_stages_from_below B h_opened h_settled_least h_fulfilled⟩
    have h_flat_least : Has l.prog w K mg base 6 "flat_least" ["flat"] (spFlatLeast K tP) := ⟨f_flat_least, fd_flat_least, PySem.W.mg_of X G a_flat_least, F_flat_least.kp, b_flat_least, ok_flat_least F_flat_least h_stages_from_below⟩
    have h_law_pool : Has l.prog w K mg base 1 "_law_pool" ["_law_script"] (spPool K) := ⟨f_law_pool, fd_law_pool, PySem.W.mg_of X G a_law_pool, F_law_pool.kp, b_law_pool, ok_law_pool F_law_pool B⟩
    have h_law_stream : Has l.prog w K mg base 2 "_law_stream" ["_law_script"] (spStream K) := ⟨f_law_stream, fd_law_stream, PySem.W.mg_of X G a_law_stream, F_law_stream.kp, b_law_stream, ok_law_stream F_law_stream h_law_pool⟩
    have h_law_pick : Has l.prog w K mg base 1 "_law_pick" ["_law_pool_here", "_law_many"] spPick := ⟨f_law_pick, fd_law_pick, PySem.W.mg_of X G a_law_pick, F_law_pick.kp, b_law_pick, ok_law_pick F_law_pick B⟩
    have h_law_amount : Has l.prog w K mg base 2 "_law_amount" ["_law_pool_here"] spAmount := ⟨f_law_amount, fd_law_amount, PySem.W.mg_of X G a_law_amount, F_law_amount.kp, b_law_amount, ok_law_amount F_law_amount B h_law_pick⟩
    have h_law_arcs : Has l.prog w K mg base 2 "_law_arcs" ["_law_pool_here", "_law_many"] (spArcs K) := ⟨f_law_arcs, fd_law_arcs, PySem.W.mg_of X G a_law_arcs, F_law_arcs.kp, b_law_arcs, ok_law_arcs F_law_arcs B h_law_pick⟩
    have h_law_flat : Has l.prog w K mg base 3 "_law_flat" ["_law_pool_here", "_law_most", "_law_conditions"] (spFlat K) := ⟨f_law_flat, fd_law_flat, PySem.W.mg_of X G a_law_flat, F_law_flat.kp, b_law_flat, ok_law_flat F_law_flat B h_law_pick h_law_amount h_law_arcs⟩
    have h_law_are_amounts : Has l.prog w K mg base 1 "_law_are_amounts" ["_law_value_here", "_law_many"] (spAre K) := ⟨f_law_are_amounts, fd_law_are_amounts, PySem.W.mg_of X G a_law_are_amounts, F_law_are_amounts.kp, b_law_are_amounts, ok_law_are_amounts F_law_are_amounts B⟩
    have h_law_shifted : Has l.prog w K mg base 1 "_law_shifted" ["_law_a", "_law_c"] spShifted := ⟨f_law_shifted, fd_law_shifted, PySem.W.mg_of X G a_law_shifted, F_law_shifted.kp, b_law_shifted, ok_law_shifted F_law_shifted B⟩
    have h_law_at_most : Has l.prog w K mg base 1 "_law_at_most" ["_law_a", "_law_b"] spAtMost := ⟨f_law_at_most, fd_law_at_most, PySem.W.mg_of X G a_law_at_most, F_law_at_most.kp, b_law_at_most, ok_law_at_most F_law_at_most ⟩
    have h_law_one_of : Has l.prog w K mg base 2 "_law_one_of" ["_law_amounts", "_law_kind"] (spOneOf K) := ⟨f_law_one_of, fd_law_one_of, PySem.W.mg_of X G a_law_one_of, F_law_one_of.kp, b_law_one_of, ok_law_one_of F_law_one_of h_law_at_most⟩
    have h_law_value : Has l.prog w K mg base 3 "_law_value" ["_law_formula", "_law_x"] (spFlatValue K) := ⟨f_law_value, fd_law_value, PySem.W.mg_of X G a_law_value, F_law_value.kp, b_law_value, ok_law_value F_law_value h_law_at_most h_law_shifted h_law_one_of⟩
    have h_law_values : Has l.prog w K mg base 4 "_law_values" ["_law_flat_here", "_law_x"] (spValues K) := ⟨f_law_values, fd_law_values, PySem.W.mg_of X G a_law_values, F_law_values.kp, b_law_values, ok_law_values F_law_values h_law_value⟩
    have h_law_box : Has l.prog w K mg base 1 "_law_box" ["_law_many"] spBox := ⟨f_law_box, fd_law_box, PySem.W.mg_of X G a_law_box, F_law_box.kp, b_law_box, ok_law_box F_law_box B⟩
    exact ok_law F_law B h_law_stream h_law_flat h_flat_least h_law_are_amounts h_law_values h_law_box h_law_at_most
end WK

open PySem PySem.W PyProof.Rows in
set_option maxRecDepth 100000 in
set_option maxHeartbeats 0 in
theorem PySem.Challenge.cw_circlesettle_k32_whole_no_solution_is_le_holds : PySem.Challenge.rw_circlesettle_k32_whole_no_solution_is_le.Holds := by
  w_on; o_law; k_head; (case hw => w_witness2)
  k_fill
  refine LamX.walk_ofTs (l := PySem.Challenge.rw_circlesettle_k32_whole_no_solution_is_le) (CX := fun _ => L2.CX0) (k := 7) (n := 63) (x := "_law_script") rfl (by decide) rfl ⟨rfl, by decide, by decide⟩ (fun w h Y => PySem.W.km_in_of Y) ?F (fun _ _ _ _ _ z => z)
  case F =>
    intro w mg fa h Y KX G hmg
    have hT8 := PySem.W.km_tabs_of Y
    refine' WK.law_at KX G hmg (WK.Top.mk (WK.def_mk ?a0 ?l0 ?c0 ?k0) (WK.def_mk ?a1 ?l1 ?c1 ?k1) (WK.def_mk ?a2 ?l2 ?c2 ?k2) (WK.def_mk ?a3 ?l3 ?c3 ?k3) (WK.def_mk ?a4 ?l4 ?c4 ?k4) (WK.def_mk ?a5 ?l5 ?c5 ?k5) (WK.def_mk ?a6 ?l6 ?c6 ?k6) (WK.def_mk ?a7 ?l7 ?c7 ?k7) (WK.def_mk ?a8 ?l8 ?c8 ?k8) (WK.def_mk ?a9 ?l9 ?c9 ?k9) (WK.def_mk ?a10 ?l10 ?c10 ?k10) (WK.def_mk ?a11 ?l11 ?c11 ?k11) (WK.defC_mk ?a12 ?l12 ?c12 ?k12) (WK.def_mk ?a13 ?l13 ?c13 ?k13) (WK.def_mk ?a14 ?l14 ?c14 ?k14) (WK.def_mk ?a15 ?l15 ?c15 ?k15) (WK.def_mk ?a16 ?l16 ?c16 ?k16) (WK.def_mk ?a17 ?l17 ?c17 ?k17) (WK.def_mk ?a18 ?l18 ?c18 ?k18) (WK.def_mk ?a19 ?l19 ?c19 ?k19) (WK.def_mk ?a20 ?l20 ?c20 ?k20) (WK.def_mk ?a21 ?l21 ?c21 ?k21) (WK.def_mk ?a22 ?l22 ?c22 ?k22) (WK.def_mk ?a23 ?l23 ?c23 ?k23) (WK.def_mk ?a24 ?l24 ?c24 ?k24) (WK.def_mk ?a25 ?l25 ?c25 ?k25) (WK.def_mk ?a26 ?l26 ?c26 ?k26) (WK.def_mk ?a27 ?l27 ?c27 ?k27) (WK.def_mk ?a28 ?l28 ?c28 ?k28) (WK.def_mk ?a29 ?l29 ?c29 ?k29) (WK.def_mk ?a30 ?l30 ?c30 ?k30) ?z0 ?z1 ?z2 ?z3 ?z4 ?z5 ?z6 ?z7 ?z8 ?z9) (hT8 _ List.mem_cons_self) ?nP ?hC
    (case a0 => k_is)
    (case l0 => k_is)
    (case c0 => k_is)
    (case k0 => k_is)
    (case a1 => k_is)
    (case l1 => k_is)
    (case c1 => k_is)
    (case k1 => k_is)
    (case a2 => k_is)
    (case l2 => k_is)
    (case c2 => k_is)
    (case k2 => k_is)
    (case a3 => k_is)
    (case l3 => k_is)
    (case c3 => k_is)
    (case k3 => k_is)
    (case a4 => k_is)
    (case l4 => k_is)
    (case c4 => k_is)
    (case k4 => k_is)
    (case a5 => k_is)
    (case l5 => k_is)
    (case c5 => k_is)
    (case k5 => k_is)
    (case a6 => k_is)
    (case l6 => k_is)
    (case c6 => k_is)
    (case k6 => k_is)
    (case a7 => k_is)
    (case l7 => k_is)
    (case c7 => k_is)
    (case k7 => k_is)
    (case a8 => k_is)
    (case l8 => k_is)
    (case c8 => k_is)
    (case k8 => k_is)
    (case a9 => k_is)
    (case l9 => k_is)
    (case c9 => k_is)
    (case k9 => k_is)
    (case a10 => k_is)
    (case l10 => k_is)
    (case c10 => k_is)
    (case k10 => k_is)
    (case a11 => k_is)
    (case l11 => k_is)
    (case c11 => k_is)
    (case k11 => k_is)
    (case a12 => k_is)
    (case l12 => k_is)
    (case c12 => k_is)
    (case k12 => k_is)
    (case a13 => k_is)
    (case l13 => k_is)
    (case c13 => k_is)
    (case k13 => k_is)
    (case a14 => k_is)
    (case l14 => k_is)
    (case c14 => k_is)
    (case k14 => k_is)
    (case a15 => k_is)
    (case l15 => k_is)
    (case c15 => k_is)
    (case k15 => k_is)
    (case a16 => k_is)
    (case l16 => k_is)
    (case c16 => k_is)
    (case k16 => k_is)
    (case a17 => k_is)
    (case l17 => k_is)
    (case c17 => k_is)
    (case k17 => k_is)
    (case a18 => k_is)
    (case l18 => k_is)
    (case c18 => k_is)
    (case k18 => k_is)
    (case a19 => k_is)
    (case l19 => k_is)
    (case c19 => k_is)
    (case k19 => k_is)
    (case a20 => k_is)
    (case l20 => k_is)
    (case c20 => k_is)
    (case k20 => k_is)
    (case a21 => k_is)
    (case l21 => k_is)
    (case c21 => k_is)
    (case k21 => k_is)
    (case a22 => k_is)
    (case l22 => k_is)
    (case c22 => k_is)
    (case k22 => k_is)
    (case a23 => k_is)
    (case l23 => k_is)
    (case c23 => k_is)
    (case k23 => k_is)
    (case a24 => k_is)
    (case l24 => k_is)
    (case c24 => k_is)
    (case k24 => k_is)
    (case a25 => k_is)
    (case l25 => k_is)
    (case c25 => k_is)
    (case k25 => k_is)
    (case a26 => k_is)
    (case l26 => k_is)
    (case c26 => k_is)
    (case k26 => k_is)
    (case a27 => k_is)
    (case l27 => k_is)
    (case c27 => k_is)
    (case k27 => k_is)
    (case a28 => k_is)
    (case l28 => k_is)
    (case c28 => k_is)
    (case k28 => k_is)
    (case a29 => k_is)
    (case l29 => k_is)
    (case c29 => k_is)
    (case k29 => k_is)
    (case a30 => k_is)
    (case l30 => k_is)
    (case c30 => k_is)
    (case k30 => k_is)
    (case z0 => k_is)
    (case z1 => k_is)
    (case z2 => k_is)
    (case z3 => k_is)
    (case z4 => k_is)
    (case z5 => k_is)
    (case z6 => k_is)
    (case z7 => k_is)
    (case z8 => k_is)
    (case z9 => k_is)
    (case nP => first | k_is | kernel_rfl | rfl)
    (case hC => exact PySem.W.codeHd_of_K KX (by kernel_rfl))
#print axioms PySem.Challenge.cw_circlesettle_k32_whole_no_solution_is_le_holds

