import PyProof.Rows.All
import Wide.All
import OpenK.AllK
import Wide.FinOn
import HandS.ForMost
import HandS.EndBits
import HandS.WideBits
import HandS.Walk
import HandS.Conv
import HandS.Rev
import HandS.IsInst
import KE.KSortedM
import PySem.Challenge.RW_creasecourt_k39_whole_turned_about
set_option Elab.async false
set_option maxRecDepth 100000
set_option maxHeartbeats 4000000
/-! ## M1 -/
/-! Confluence of crimps, on cyclic rows of (length, mark). Plain Lean. -/
namespace CC
abbrev LM := Int × Bool

/-- two lists are one ring, cut at unlike places -/
def Rot {α : Type} (P Q : List α) : Prop := ∃ A B, P = A ++ B ∧ Q = B ++ A
theorem Rot.refl {α : Type} (P : List α) : Rot P P := ⟨[], P, rfl, (List.append_nil P).symm⟩
theorem Rot.symm {α : Type} {P Q : List α} (h : Rot P Q) : Rot Q P := by
  obtain ⟨A, B, h1, h2⟩ := h
  exact ⟨B, A, h2, h1⟩
theorem Rot.swap {α : Type} (A B : List α) : Rot (A ++ B) (B ++ A) := ⟨A, B, rfl, rfl⟩
theorem Rot.trans {α : Type} {P Q R : List α} (h : Rot P Q) (g : Rot Q R) : Rot P R := by
  obtain ⟨A, B, rfl, rfl⟩ := h
  obtain ⟨C, D, e, rfl⟩ := g
  rcases List.append_eq_append_iff.mp e with ⟨E, h1, h2⟩ | ⟨E, h1, h2⟩
  · subst h1 h2
    -- C = B ++ E, A = E ++ D
    exact ⟨E, D ++ B, by simp, by simp⟩
  · subst h1 h2
    exact ⟨A ++ C, E, by simp, by simp⟩
theorem Rot.len {α : Type} {P Q : List α} (h : Rot P Q) : P.length = Q.length := by
  obtain ⟨A, B, rfl, rfl⟩ := h
  simp [Nat.add_comm]

/-- three wedges at the row's head become one -/
inductive HS : List LM → List LM → Prop
  | mk (a b c : Int) (x y z : Bool) (R : List LM) (h1 : b ≤ a) (h2 : b ≤ c) (h3 : y ≠ z) : HS ((a, x) :: (b, y) :: (c, z) :: R) ((a - b + c, x) :: R)

/-- n crimps lead to two wedges with marks alike -/
def F : Nat → List LM → Prop
  | 0, P => ∃ a b m, P = [(a, m), (b, m)]
  | n + 1, P => ∃ P' Q, Rot P P' ∧ HS P' Q ∧ F n Q

theorem F.len : ∀ {n : Nat} {P : List LM}, F n P → P.length = 2 * n + 2
  | 0, P, h => by
    obtain ⟨a, b, m, rfl⟩ := h
    rfl
  | n + 1, P, h => by
    obtain ⟨P', Q, h1, h2, h3⟩ := h
    have e := F.len h3
    have e2 := h1.len
    cases h2
    simp only [List.length_cons] at *
    omega
theorem F.rot : ∀ {n : Nat} {P Q : List LM}, Rot P Q → F n P → F n Q
  | 0, P, Q, r, h => by
    obtain ⟨a, b, m, rfl⟩ := h
    obtain ⟨A, B, e, rfl⟩ := r
    match A, B, e with
    | [], B, e => exact ⟨a, b, m, by simpa using e.symm⟩
    | [p], [q], e =>
      simp only [List.cons_append, List.nil_append, List.cons.injEq, and_true] at e
      obtain ⟨rfl, rfl⟩ := e
      exact ⟨b, a, m, rfl⟩
    | [p, q], [], e => exact ⟨a, b, m, by simpa using e.symm⟩
    | p :: q :: r :: A, B, e => simp at e
    | [p], [], e => simp at e
    | [p], q :: r :: B, e => simp at e
    | [p, q], r :: B, e => simp at e
  | n + 1, P, Q, r, h => by
    obtain ⟨P', S, h1, h2, h3⟩ := h
    exact ⟨P', S, r.symm.trans h1, h2, h3⟩

theorem HS.det {P Q Q' : List LM} (h : HS P Q) (h' : HS P Q') : Q = Q' := by
  cases h
  cases h'
  rfl
theorem ne_two {x y z : Bool} (h : x ≠ y) (g : y ≠ z) : x = z := by
  cases x <;> cases y <;> cases z <;> simp_all

/-- whatever crimp is taken first -/
theorem conf : ∀ (n : Nat) (P Q : List LM), F (n + 1) P → HS P Q → F n Q
  | n, P, Q, ⟨P', Q', r, s', f⟩, s => by
    have len : P'.length = 2 * n + 4 := by
      have e := f.len
      cases s'
      simp only [List.length_cons] at *
      omega
    have el := r.len
    obtain ⟨A, B, e, rfl⟩ := r
    cases s with
    | mk a b c x y z R h1 h2 h3 =>
    match A, B, e, s', len with
    | [], B, e, s', _ =>
      have e' : B = (a, x) :: (b, y) :: (c, z) :: R := by simpa using e.symm
      rw [e', List.append_nil] at s'
      have d := HS.det s' (HS.mk a b c x y z R h1 h2 h3)
      rw [← d]
      exact f
    | [p0], B, e, s', _ =>
      simp only [List.cons_append, List.nil_append, List.cons.injEq] at e
      obtain ⟨rfl, rfl⟩ := e
      match R, s', f with
      | [], s', f =>
        simp only [List.length_append, List.length_cons, List.length_nil] at *
        omega
      | (e1, v) :: R2, s', f =>
        cases s' with
        | mk _ _ _ _ _ _ _ g1 g2 g3 =>
        have hx : y = v := ne_two h3 g3
        have hb : b = c := by omega
        subst hx hb
        refine F.rot ?_ f
        have e2 : b - b + e1 = e1 := by omega
        have e3 : a - b + b = a := by omega
        rw [e2, e3]
        exact Rot.swap ((e1, y) :: R2) [(a, x)]
    | [p0, p1], B, e, s', _ =>
      simp only [List.cons_append, List.nil_append, List.cons.injEq] at e
      obtain ⟨rfl, rfl, rfl⟩ := e
      match R, s', f with
      | [], s', f =>
        simp only [List.length_append, List.length_cons, List.length_nil] at *
        omega
      | [(e1, v)], s', f =>
        cases s' with
        | mk _ _ _ _ _ _ _ g1 g2 g3 =>
        have hn : n = 0 := by
          have := f.len
          simp only [List.length_cons, List.length_nil] at this
          omega
        subst hn
        obtain ⟨a', b', m, em⟩ := f
        simp only [List.cons.injEq, Prod.mk.injEq, and_true] at em
        exact absurd (em.2.2.trans em.1.2.symm) h3
      | (e1, v) :: (f1, u) :: R3, s', f =>
        cases s' with
        | mk _ _ _ _ _ _ _ g1 g2 g3 =>
        have f' := F.rot (Rot.swap ((c - e1 + f1, z) :: R3) [(a, x), (b, y)]) f
        match n, f, f' with
        | 0, f, f' =>
          have q := f.len
          simp [List.append_eq] at q
          try omega
        | n + 1, f, f' =>
          have u1 := conf n _ _ f' (HS.mk a b (c - e1 + f1) x y z R3 h1 (by omega) h3)
          refine ⟨_, _, Rot.refl _, HS.mk (a - b + c) e1 f1 x v u R3 (by omega) g2 g3, ?_⟩
          have e2 : a - b + c - e1 + f1 = a - b + (c - e1 + f1) := by omega
          rw [e2]
          exact u1
    | p0 :: p1 :: p2 :: A, B, e, s', _ =>
      simp only [List.cons_append, List.cons.injEq] at e
      obtain ⟨rfl, rfl, rfl, rfl⟩ := e
      match B, s', f with
      | [], s', f =>
        simp only [List.nil_append, List.append_nil] at *
        have d := HS.det s' (HS.mk a b c x y z A h1 h2 h3)
        rw [← d]
        exact f
      | [(d, w)], s', f =>
        cases s' with
        | mk _ _ _ _ _ _ _ g1 g2 g3 =>
        have hx : x = z := ne_two g3 h3
        have hb : a = b := by omega
        subst hx hb
        have e2 : a - a + c = c := by omega
        have e3 : d - a + a = d := by omega
        rw [e3] at f
        rw [e2]
        exact F.rot (Rot.swap [(d, w)] ((c, x) :: A)) f
      | [(d, w), (g, t)], s', f =>
        cases s' with
        | mk _ _ _ _ _ _ _ g1 g2 g3 =>
        match n, f with
        | 0, f =>
          have q := f.len
          simp [List.append_eq] at q
          try omega
        | n + 1, f =>
          have u1 := conf n _ _ f (HS.mk (d - g + a) b c w y z A (by omega) h2 h3)
          refine ⟨(d, w) :: (g, t) :: (a - b + c, x) :: A, _, ?_, HS.mk d g (a - b + c) w t x A g1 (by omega) g3, ?_⟩
          · exact Rot.swap ((a - b + c, x) :: A) [(d, w), (g, t)]
          · have e2 : d - g + (a - b + c) = d - g + a - b + c := by omega
            rw [e2]
            exact u1
      | (d, w) :: (g, t) :: (k, o) :: B, s', f =>
        cases s' with
        | mk _ _ _ _ _ _ _ g1 g2 g3 =>
        match n, f with
        | 0, f =>
          have q := f.len
          simp [List.append_eq] at q
          try omega
        | n + 1, f =>
          have f' := F.rot (Rot.swap ((d - g + k, w) :: B) ((a, x) :: (b, y) :: (c, z) :: A)) f
          have u1 := conf n _ _ f' (HS.mk a b c x y z (A ++ (d - g + k, w) :: B) h1 h2 h3)
          refine ⟨(d, w) :: (g, t) :: (k, o) :: (B ++ (a - b + c, x) :: A), _, ?_, HS.mk d g k w t o _ g1 g2 g3, ?_⟩
          · exact Rot.swap ((a - b + c, x) :: A) ((d, w) :: (g, t) :: (k, o) :: B)
          · exact F.rot (Rot.swap ((a - b + c, x) :: A) ((d - g + k, w) :: B)) u1
end CC

/-! ## M2 -/
/-! Orders of wedges: what opening a crimp keeps; the program's recursion as a function, and that it ends well. Plain Lean. -/
namespace CC

/-! ### rings of numbers -/
def lk (c : Nat) : List Nat → Nat → List (Nat × Nat)
  | [], f => [(c, f)]
  | x :: L, f => (c, x) :: lk x L f
def cyc : List Nat → List (Nat × Nat)
  | [] => []
  | a :: L => lk a L a
theorem lk_app (x : Nat) (B : List Nat) (f : Nat) : ∀ (A : List Nat) (c : Nat), lk c (A ++ x :: B) f = lk c A x ++ lk x B f
  | [], c => rfl
  | y :: A, c => by
    show (c, y) :: lk y (A ++ x :: B) f = _
    rw [lk_app x B f A y]
    rfl
theorem lk_fst (f : Nat) : ∀ (A : List Nat) (c : Nat), (lk c A f).map Prod.fst = c :: A
  | [], c => rfl
  | y :: A, c => by
    show c :: (lk y A f).map Prod.fst = _
    rw [lk_fst f A y]
theorem lk_len (f : Nat) (A : List Nat) (c : Nat) : (lk c A f).length = A.length + 1 := by
  have e := congrArg List.length (lk_fst f A c)
  simpa using e
theorem cyc_fst (W : List Nat) : (cyc W).map Prod.fst = W := by
  cases W with
  | nil => rfl
  | cons a L => exact lk_fst a L a
theorem cyc_len (W : List Nat) : (cyc W).length = W.length := by
  have e := congrArg List.length (cyc_fst W)
  simpa using e
def rt {α : Type} (j : Nat) (l : List α) : List α := l.drop j ++ l.take j
theorem rt_len {α : Type} (j : Nat) (l : List α) : (rt j l).length = l.length := by
  unfold rt
  rw [List.length_append, List.length_drop, List.length_take]
  omega
theorem rt_Rot {α : Type} (j : Nat) (l : List α) : Rot l (rt j l) := ⟨l.take j, l.drop j, (List.take_append_drop j l).symm, rfl⟩
theorem rt_map {α β : Type} (g : α → β) (j : Nat) (l : List α) : rt j (l.map g) = (rt j l).map g := by
  unfold rt
  rw [List.map_append, List.map_drop, List.map_take]
theorem cyc_app (A B : List Nat) : ∃ X Y, cyc (A ++ B) = X ++ Y ∧ cyc (B ++ A) = Y ++ X ∧ X.length = A.length := by
  cases A with
  | nil => exact ⟨[], cyc B, rfl, by simp, rfl⟩
  | cons a A =>
    cases B with
    | nil => exact ⟨cyc (a :: A), [], by simp, rfl, by rw [cyc_len]⟩
    | cons b B =>
      refine ⟨lk a A b, lk b B a, ?_, ?_, ?_⟩
      · show lk a (A ++ b :: B) a = _
        exact lk_app b B a A a
      · show lk b (B ++ a :: A) b = _
        exact lk_app a A b B b
      · rw [lk_len]
        rfl
theorem cyc_rt (j : Nat) (W : List Nat) : cyc (rt j W) = rt j (cyc W) := by
  obtain ⟨X, Y, h1, h2, h3⟩ := cyc_app (W.take j) (W.drop j)
  rw [List.take_append_drop] at h1
  show cyc (W.drop j ++ W.take j) = _
  have hl := congrArg List.length h1
  rw [cyc_len, List.length_append, h3, List.length_take] at hl
  unfold rt
  rw [h2, h1]
  rw [List.length_take] at h3
  by_cases hj : j ≤ W.length
  · have e : X.length = j := by omega
    rw [← e, List.drop_left, List.take_left]
  · have e : X.length = W.length := by omega
    have e2 : Y = [] := by
      apply List.eq_nil_of_length_eq_zero
      omega
    subst e2
    rw [List.drop_eq_nil_of_le (by simp; omega), List.take_of_length_le (by simp; omega)]
    simp
theorem mem_cyc_rt {j : Nat} {W : List Nat} {p : Nat × Nat} : p ∈ cyc (rt j W) ↔ p ∈ cyc W := by
  rw [cyc_rt]
  unfold rt
  rw [List.mem_append, Or.comm, ← List.mem_append, List.take_append_drop]
theorem mem_lk {f : Nat} {p : Nat × Nat} : ∀ {A : List Nat} {c : Nat}, p ∈ lk c A f → p.1 ∈ c :: A ∧ (p.2 = f ∨ p.2 ∈ A)
  | [], c, h => by
    have e : p = (c, f) := by simpa [lk] using h
    subst e
    exact ⟨List.mem_singleton.mpr rfl, .inl rfl⟩
  | y :: A, c, h => by
    rcases List.mem_cons.mp (show p ∈ (c, y) :: lk y A f from h) with e | h
    · subst e
      exact ⟨by simp, .inr (by simp)⟩
    · obtain ⟨h1, h2⟩ := mem_lk h
      refine ⟨List.mem_cons_of_mem _ h1, ?_⟩
      rcases h2 with h2 | h2
      · exact .inl h2
      · exact .inr (List.mem_cons_of_mem _ h2)

/-! ### lengths, marks, what shuts -/
def ln (s : Nat → Int) (x y : Nat) : Int := if x % 2 = 0 then s y - s x else s x - s y
def lens (s : Nat → Int) (W : List Nat) : List Int := (cyc W).map fun p => ln s p.1 p.2
def lmk (s : Nat → Int) (m : Nat → Bool) (W : List Nat) : List LM := (cyc W).map fun p => (ln s p.1 p.2, m p.1)
def btw (a b x : Int) : Prop := (a < x ∧ x < b) ∨ (b < x ∧ x < a)
def mk (h : Nat → Int) (a b : Nat) : Bool := if b % 2 = 1 then decide (h a < h b) else decide (h b < h a)
structure Rg (s : Nat → Int) (W : List Nat) : Prop where
  nd : W.Nodup
  alt : ∀ p ∈ cyc W, (p.1 + p.2) % 2 = 1
  pos : ∀ p ∈ cyc W, 0 < ln s p.1 p.2
structure Vd (s : Nat → Int) (m : Nat → Bool) (W : List Nat) (h : Nat → Int) : Prop where
  wed : ∀ p ∈ cyc W, ∀ q ∈ cyc W, ¬ (btw (h p.1) (h p.2) (h q.1) ∧ btw (s q.1) (s q.2) (s p.2))
  cre : ∀ p ∈ cyc W, ∀ q ∈ cyc W, (p.2 + q.2) % 2 = 0 → s p.2 = s q.2 → (btw (h p.1) (h p.2) (h q.1) ↔ btw (h p.1) (h p.2) (h q.2))
  mrk : ∀ p ∈ cyc W, mk h p.1 p.2 = m p.2
theorem Rg.rt {s : Nat → Int} {W : List Nat} (r : Rg s W) (j : Nat) : Rg s (rt j W) := by
  refine ⟨?_, fun p hp => r.alt p (mem_cyc_rt.mp hp), fun p hp => r.pos p (mem_cyc_rt.mp hp)⟩
  have e := r.nd
  rw [← List.take_append_drop j W] at e
  exact (List.perm_append_comm.nodup_iff).mp e
theorem Vd.back {s : Nat → Int} {m : Nat → Bool} {W : List Nat} {h : Nat → Int} {j : Nat} (v : Vd s m (CC.rt j W) h) : Vd s m W h :=
  ⟨fun p hp q hq => v.wed p (mem_cyc_rt.mpr hp) q (mem_cyc_rt.mpr hq), fun p hp q hq => v.cre p (mem_cyc_rt.mpr hp) q (mem_cyc_rt.mpr hq), fun p hp => v.mrk p (mem_cyc_rt.mpr hp)⟩

/-- where a wedge stands behind the opening -/
def Sh (h' h : Nat → Int) (e0 w : Nat) : Prop := (h' w < h' e0 ∧ h w = h' w) ∨ (h' e0 < h' w ∧ h w = h' w + 2)
theorem Rg.cut {s : Nat → Int} {e0 e1 e2 y : Nat} {R : List Nat} (r : Rg s (e0 :: e1 :: e2 :: y :: R)) (h2 : ln s e1 e2 ≤ ln s e2 y) : Rg s (e0 :: y :: R) ∧ ln s e0 y = ln s e0 e1 - ln s e1 e2 + ln s e2 y := by
  have m1 : (e0, e1) ∈ cyc (e0 :: e1 :: e2 :: y :: R) := by simp [cyc, lk]
  have m2 : (e1, e2) ∈ cyc (e0 :: e1 :: e2 :: y :: R) := by simp [cyc, lk]
  have m3 : (e2, y) ∈ cyc (e0 :: e1 :: e2 :: y :: R) := by simp [cyc, lk]
  have a1 := r.alt _ m1
  have a2 := r.alt _ m2
  have a3 := r.alt _ m3
  have p1 := r.pos _ m1
  have p2 := r.pos _ m2
  have p3 := r.pos _ m3
  dsimp only at a1 a2 a3 p1 p2 p3
  have key : ln s e0 y = ln s e0 e1 - ln s e1 e2 + ln s e2 y := by
    unfold ln
    repeat (first | rw [if_pos (by omega)] | rw [if_neg (by omega)] | split)
    all_goals omega
  refine ⟨⟨?_, fun p hp => ?_, fun p hp => ?_⟩, key⟩
  · have n := r.nd
    simp only [List.nodup_cons, List.mem_cons, not_or] at n ⊢
    exact ⟨n.1.2.2, n.2.2.2⟩
  · rcases List.mem_cons.mp (show p ∈ (e0, y) :: lk y R e0 from hp) with e | hp
    · subst e
      dsimp only
      omega
    · exact r.alt p (by show p ∈ (e0, e1) :: (e1, e2) :: (e2, y) :: lk y R e0; simp [hp])
  · rcases List.mem_cons.mp (show p ∈ (e0, y) :: lk y R e0 from hp) with e | hp
    · subst e
      dsimp only
      omega
    · exact r.pos p (by show p ∈ (e0, e1) :: (e1, e2) :: (e2, y) :: lk y R e0; simp [hp])
set_option maxHeartbeats 4000000 in
theorem vd_open {s : Nat → Int} {m : Nat → Bool} {e0 e1 e2 y : Nat} {R : List Nat} {h h' : Nat → Int} {up : Bool} (r : Rg s (e0 :: e1 :: e2 :: y :: R)) (h1 : ln s e1 e2 ≤ ln s e0 e1) (h2 : ln s e1 e2 ≤ ln s e2 y) (h3 : m e1 ≠ m e2)
    (v : Vd s m (e0 :: y :: R) h') (hs : ∀ w ∈ y :: R, Sh h' h e0 w) (hup : up = (m e1 == decide (e1 % 2 = 1)))
    (ho : (up = true ∧ h e0 = h' e0 ∧ h e1 = h' e0 + 1 ∧ h e2 = h' e0 + 2) ∨ (up = false ∧ h e0 = h' e0 + 2 ∧ h e1 = h' e0 + 1 ∧ h e2 = h' e0)) : Vd s m (e0 :: e1 :: e2 :: y :: R) h := by
  have m1 : (e0, e1) ∈ cyc (e0 :: e1 :: e2 :: y :: R) := by simp [cyc, lk]
  have m2 : (e1, e2) ∈ cyc (e0 :: e1 :: e2 :: y :: R) := by simp [cyc, lk]
  have m3 : (e2, y) ∈ cyc (e0 :: e1 :: e2 :: y :: R) := by simp [cyc, lk]
  have a1 := r.alt _ m1
  have a2 := r.alt _ m2
  have a3 := r.alt _ m3
  have p1 := r.pos _ m1
  have p2 := r.pos _ m2
  have p3 := r.pos _ m3
  dsimp only at a1 a2 a3 p1 p2 p3
  have dir : (s e0 < s e1 ∧ s e2 < s e1 ∧ s e2 < s y ∧ s e0 ≤ s e2 ∧ s e1 ≤ s y) ∨ (s e1 < s e0 ∧ s e1 < s e2 ∧ s y < s e2 ∧ s e2 ≤ s e0 ∧ s y ≤ s e1) := by
    unfold ln at h1 h2 p1 p2 p3
    by_cases c : e0 % 2 = 0
    · rw [if_pos c] at p1 h1
      rw [if_neg (show ¬ e1 % 2 = 0 by omega)] at p2 h1 h2
      rw [if_pos (show e2 % 2 = 0 by omega)] at p3 h2
      omega
    · rw [if_neg c] at p1 h1
      rw [if_pos (show e1 % 2 = 0 by omega)] at p2 h1 h2
      rw [if_neg (show ¬ e2 % 2 = 0 by omega)] at p3 h2
      omega
  have hh : (h e0 = h' e0 ∧ h e1 = h' e0 + 1 ∧ h e2 = h' e0 + 2) ∨ (h e0 = h' e0 + 2 ∧ h e1 = h' e0 + 1 ∧ h e2 = h' e0) := ho.elim (fun z => .inl z.2) fun z => .inr z.2
  have my : (e0, y) ∈ cyc (e0 :: y :: R) := by simp [cyc, lk]
  have sy : Sh h' h e0 y := hs y (by simp)
  have cl : ∀ p ∈ cyc (e0 :: e1 :: e2 :: y :: R), p = (e0, e1) ∨ p = (e1, e2) ∨ p = (e2, y) ∨ (p ∈ cyc (e0 :: y :: R) ∧ p ∈ cyc (e0 :: e1 :: e2 :: y :: R) ∧ Sh h' h e0 p.1 ∧ (p.2 = e0 ∨ Sh h' h e0 p.2)) := fun p hp => by
    have hp0 := hp
    rcases List.mem_cons.mp (show p ∈ (e0, e1) :: (e1, e2) :: (e2, y) :: lk y R e0 from hp) with e | hp
    · exact .inl e
    rcases List.mem_cons.mp hp with e | hp
    · exact .inr (.inl e)
    rcases List.mem_cons.mp hp with e | hp
    · exact .inr (.inr (.inl e))
    obtain ⟨q1, q2⟩ := mem_lk hp
    refine .inr (.inr (.inr ⟨List.mem_cons_of_mem _ hp, hp0, hs _ q1, ?_⟩))
    rcases q2 with q2 | q2
    · exact .inl q2
    · exact .inr (hs _ (List.mem_cons_of_mem _ q2))
  have alt := r.alt
  unfold Sh at sy cl
  refine ⟨fun p hp q hq => ?_, fun p hp q hq hpar heq => ?_, fun p hp => ?_⟩
  · have cp := cl p hp
    have cq := cl q hq
    clear cl hs hp hq
    unfold btw
    rcases cp with rfl | rfl | rfl | ⟨tp, bp, sp, zp⟩
    · dsimp only
      omega
    · dsimp only
      omega
    · rcases cq with rfl | rfl | rfl | ⟨tq, bq, sq, zq⟩
      · dsimp only
        omega
      · dsimp only
        omega
      · dsimp only
        omega
      · have k := v.wed _ my q tq
        unfold btw at k
        dsimp only at k ⊢
        omega
    · rcases zp with zp | zp
      · rw [zp]
        rcases cq with rfl | rfl | rfl | ⟨tq, bq, sq, zq⟩
        · dsimp only
          omega
        · dsimp only
          omega
        · dsimp only
          omega
        · have k := v.wed p tp q tq
          unfold btw at k
          rw [zp] at k
          omega
      · rcases cq with rfl | rfl | rfl | ⟨tq, bq, sq, zq⟩
        · have k := v.wed p tp _ my
          unfold btw at k
          dsimp only at k ⊢
          omega
        · have k := v.wed p tp _ my
          unfold btw at k
          dsimp only at k ⊢
          omega
        · have k := v.wed p tp _ my
          unfold btw at k
          dsimp only at k ⊢
          omega
        · have k := v.wed p tp q tq
          unfold btw at k
          omega
  · have cp := cl p hp
    have cq := cl q hq
    clear cl hs
    unfold btw
    rcases cp with rfl | rfl | rfl | ⟨tp, bp, sp, zp⟩
    · dsimp only
      omega
    · dsimp only
      omega
    · rcases cq with rfl | rfl | rfl | ⟨tq, bq, sq, zq⟩
      · dsimp only at *
        omega
      · dsimp only at *
        omega
      · dsimp only at *
        omega
      · rcases zq with zq | zq
        · rw [zq] at hpar
          dsimp only at hpar
          omega
        · have k := v.cre _ my q tq hpar heq
          unfold btw at k
          dsimp only at k ⊢
          omega
    · have ap := alt p bp
      rcases zp with zp | zp
      · rw [zp] at hpar heq ap ⊢
        rcases cq with rfl | rfl | rfl | ⟨tq, bq, sq, zq⟩
        · dsimp only at *
          omega
        · dsimp only at *
          omega
        · dsimp only at *
          omega
        · have k := v.cre p tp q tq (by rw [zp]; exact hpar) (by rw [zp]; exact heq)
          unfold btw at k
          rw [zp] at k
          rcases zq with zq | zq
          · rw [zq] at k ⊢
            omega
          · omega
      · rcases cq with rfl | rfl | rfl | ⟨tq, bq, sq, zq⟩
        · dsimp only at *
          omega
        · dsimp only at *
          omega
        · have k := v.cre p tp _ my hpar heq
          unfold btw at k
          dsimp only at k ⊢
          omega
        · have k := v.cre p tp q tq hpar heq
          unfold btw at k
          rcases zq with zq | zq
          · rw [zq] at k ⊢
            omega
          · omega
  · have cp := cl p hp
    clear cl hs
    have k0 := v.mrk _ my
    unfold mk at k0 ⊢
    dsimp only at k0
    rcases cp with rfl | rfl | rfl | ⟨tp, bp, sp, zp⟩
    · dsimp only
      by_cases c : e1 % 2 = 1
      · rw [if_pos c]
        rw [decide_eq_true c] at hup
        rcases ho with ⟨e, z⟩ | ⟨e, z⟩ <;> rw [e] at hup
        · rw [decide_eq_true (by omega)]
          revert hup
          cases m e1 <;> simp
        · rw [decide_eq_false (by omega)]
          revert hup
          cases m e1 <;> simp
      · rw [if_neg c]
        rw [decide_eq_false c] at hup
        rcases ho with ⟨e, z⟩ | ⟨e, z⟩ <;> rw [e] at hup
        · rw [decide_eq_false (by omega)]
          revert hup
          cases m e1 <;> simp
        · rw [decide_eq_true (by omega)]
          revert hup
          cases m e1 <;> simp
    · dsimp only
      by_cases c : e1 % 2 = 1
      · rw [if_neg (show ¬ e2 % 2 = 1 by omega)]
        rw [decide_eq_true c] at hup
        rcases ho with ⟨e, z⟩ | ⟨e, z⟩ <;> rw [e] at hup
        · rw [decide_eq_false (by omega)]
          revert hup h3
          cases m e1 <;> cases m e2 <;> simp
        · rw [decide_eq_true (by omega)]
          revert hup h3
          cases m e1 <;> cases m e2 <;> simp
      · rw [if_pos (show e2 % 2 = 1 by omega)]
        rw [decide_eq_false c] at hup
        rcases ho with ⟨e, z⟩ | ⟨e, z⟩ <;> rw [e] at hup
        · rw [decide_eq_true (by omega)]
          revert hup h3
          cases m e1 <;> cases m e2 <;> simp
        · rw [decide_eq_false (by omega)]
          revert hup h3
          cases m e1 <;> cases m e2 <;> simp
    · dsimp only
      rw [← k0]
      split
      · refine decide_eq_decide.mpr ?_
        omega
      · refine decide_eq_decide.mpr ?_
        omega
    · have k := v.mrk p tp
      unfold mk at k
      rw [← k]
      split
      · refine decide_eq_decide.mpr ?_
        rcases zp with zp | zp
        · rw [zp]
          omega
        · omega
      · refine decide_eq_decide.mpr ?_
        rcases zp with zp | zp
        · rw [zp]
          omega
        · omega
end CC

/-! ## M3 -/
/-! The program's recursion as a function, and that it ends well. Plain Lean. -/
namespace CC

/-- the place ahead, cyclically; the place behind -/
def pk (k n : Nat) : Nat := if k = 0 then n - 1 else k - 1
def nx (k n : Nat) : Nat := (k + 1) % n
def mn (i j : Int) : Int := if j < i then j else i
def cok (L : List Int) (M : List Bool) (k : Nat) : Bool :=
  decide (L.getD k 0 ≤ mn (L.getD (pk k L.length) 0) (L.getD (nx k L.length) 0)) && (M.getD k false != M.getD (nx k L.length) false)
def cspot (L : List Int) (M : List Bool) : Option Nat := if L.length < 4 then none else (List.range L.length).find? (cok L M)
def opn (o : List Nat) (e0 e1 e2 : Nat) (up : Bool) : List Nat := o.flatMap fun w => if w = e0 then (if up = true then [e0, e1, e2] else [e2, e1, e0]) else [w]
def co : Nat → List Int → List Nat → List Bool → Option (List Nat)
  | 0, _, W, M => if M.getD 0 false ≠ M.getD 1 false then none else if M.getD 0 false = decide (W.getD 1 0 % 2 = 1) then some [W.getD 0 0, W.getD 1 0] else some [W.getD 1 0, W.getD 0 0]
  | f + 1, L, W, M => (cspot L M).bind fun k =>
    (co f (((rt (pk k L.length) L).getD 0 0 + (rt (pk k L.length) L).getD 2 0 - (rt (pk k L.length) L).getD 1 0) :: (rt (pk k L.length) L).drop 3)
      ((rt (pk k L.length) W).take 1 ++ (rt (pk k L.length) W).drop 3) ((rt (pk k L.length) M).take 1 ++ (rt (pk k L.length) M).drop 3)).bind fun o =>
    some (opn o ((rt (pk k L.length) W).getD 0 0) ((rt (pk k L.length) W).getD 1 0) ((rt (pk k L.length) W).getD 2 0)
      ((rt (pk k L.length) M).getD 1 false == decide ((rt (pk k L.length) W).getD 1 0 % 2 = 1)))
def hgt (o : List Nat) (w : Nat) : Int := (o.idxOf w : Nat)

theorem rt_getD {α : Type} (d : α) {j i : Nat} {l : List α} (hj : j < l.length) (hi : i < l.length) : (rt j l).getD i d = l.getD ((i + j) % l.length) d := by
  unfold rt
  rw [List.getD_eq_getElem?_getD, List.getD_eq_getElem?_getD]
  by_cases c : i + j < l.length
  · rw [List.getElem?_append_left (by rw [List.length_drop]; omega), List.getElem?_drop, Nat.mod_eq_of_lt c, Nat.add_comm]
  · rw [List.getElem?_append_right (by rw [List.length_drop]; omega), List.length_drop, List.getElem?_take_of_lt (by omega)]
    have e : (i + j) % l.length = i + j - l.length := by
      rw [Nat.mod_eq_sub_mod (by omega), Nat.mod_eq_of_lt (by omega)]
    rw [e]
    congr 2
    omega
theorem pk_lt {k n : Nat} (h : k < n) : pk k n < n := by
  unfold pk
  split <;> omega
theorem pk_1 {k n : Nat} (h : k < n) : (1 + pk k n) % n = k := by
  unfold pk
  split
  · have e : 1 + (n - 1) = n := by omega
    rw [e, Nat.mod_self]
    omega
  · have e : 1 + (k - 1) = k := by omega
    rw [e, Nat.mod_eq_of_lt h]
theorem pk_2 {k n : Nat} (h : k < n) : (2 + pk k n) % n = nx k n := by
  unfold pk nx
  split
  · have e : 2 + (n - 1) = n + 1 := by omega
    rw [e, Nat.add_mod_left]
    subst k
    rfl
  · have e : 2 + (k - 1) = k + 1 := by omega
    rw [e]
theorem pk_0 {k n : Nat} (h : k < n) : (0 + pk k n) % n = pk k n := by
  rw [Nat.zero_add, Nat.mod_eq_of_lt (pk_lt h)]
/-- the test at k, read off the row begun anew ahead of k -/
theorem cok_iff {L : List Int} {M : List Bool} {k : Nat} (hk : k < L.length) (h3 : 2 < L.length) (hl : M.length = L.length) : cok L M k = true ↔
    ((rt (pk k L.length) L).getD 1 0 ≤ (rt (pk k L.length) L).getD 0 0 ∧ (rt (pk k L.length) L).getD 1 0 ≤ (rt (pk k L.length) L).getD 2 0 ∧ (rt (pk k L.length) M).getD 1 false ≠ (rt (pk k L.length) M).getD 2 false) := by
  have hp := pk_lt hk
  rw [rt_getD _ hp (show 0 < L.length by omega), rt_getD _ hp (show 1 < L.length by omega), rt_getD _ hp (show 2 < L.length by omega), rt_getD _ (hl ▸ hp) (show 1 < M.length by omega), rt_getD _ (hl ▸ hp) (show 2 < M.length by omega), hl, pk_0 hk, pk_1 hk, pk_2 hk]
  unfold cok mn
  rw [Bool.and_eq_true, decide_eq_true_iff, bne_iff_ne]
  constructor
  · rintro ⟨h1, h2⟩
    refine ⟨?_, ?_, h2⟩ <;> (split at h1 <;> omega)
  · rintro ⟨h1, h2, h3⟩
    refine ⟨?_, h3⟩
    split <;> omega

theorem flat_id (e0 e1 e2 : Nat) (up : Bool) : ∀ X : List Nat, e0 ∉ X → opn X e0 e1 e2 up = X
  | [], _ => rfl
  | x :: X, h => by
    have h1 : ¬ x = e0 := fun e => h (by simp [e])
    have h2 : e0 ∉ X := fun e => h (List.mem_cons_of_mem _ e)
    have ih := flat_id e0 e1 e2 up X h2
    unfold opn at ih ⊢
    rw [List.flatMap_cons, ih, if_neg h1]
    rfl
theorem opn_split {o X Y : List Nat} {e0 : Nat} (e1 e2 : Nat) (up : Bool) (h : o = X ++ e0 :: Y) (hX : e0 ∉ X) (hY : e0 ∉ Y) : opn o e0 e1 e2 up = X ++ (if up = true then [e0, e1, e2] else [e2, e1, e0]) ++ Y := by
  have eX := flat_id e0 e1 e2 up X hX
  have eY := flat_id e0 e1 e2 up Y hY
  subst h
  unfold opn at eX eY ⊢
  rw [List.flatMap_append, List.flatMap_cons, eX, eY, if_pos rfl, List.append_assoc]
theorem hgt_at {o : List Nat} (hn : o.Nodup) {i w : Nat} (h : o[i]? = some w) : hgt o w = (i : Nat) := by
  obtain ⟨hi, e⟩ := List.getElem?_eq_some_iff.mp h
  unfold hgt
  rw [← e, hn.idxOf_getElem i hi]
theorem at_hgt {o : List Nat} {w : Nat} (h : w ∈ o) : ∃ i, i < o.length ∧ o[i]? = some w ∧ hgt o w = (i : Nat) := by
  have hi := List.idxOf_lt_length_iff.mpr h
  exact ⟨o.idxOf w, hi, by rw [List.getElem?_eq_getElem hi, List.getElem_idxOf], rfl⟩
theorem perm_open {o : List Nat} {e0 e1 e2 : Nat} {R : List Nat} {up : Bool} (hp : o.Perm (e0 :: R)) (hn : (e0 :: e1 :: e2 :: R).Nodup) : (opn o e0 e1 e2 up).Perm (e0 :: e1 :: e2 :: R) ∧
    (∀ w ∈ R, Sh (hgt o) (hgt (opn o e0 e1 e2 up)) e0 w) ∧ ((up = true ∧ hgt (opn o e0 e1 e2 up) e0 = hgt o e0 ∧ hgt (opn o e0 e1 e2 up) e1 = hgt o e0 + 1 ∧ hgt (opn o e0 e1 e2 up) e2 = hgt o e0 + 2) ∨
      (up = false ∧ hgt (opn o e0 e1 e2 up) e0 = hgt o e0 + 2 ∧ hgt (opn o e0 e1 e2 up) e1 = hgt o e0 + 1 ∧ hgt (opn o e0 e1 e2 up) e2 = hgt o e0)) := by
  have hm : e0 ∈ o := hp.mem_iff.mpr (by simp)
  have hn0 : (e0 :: R).Nodup := by
    simp only [List.nodup_cons, List.mem_cons, not_or] at hn ⊢
    exact ⟨hn.1.2.2, hn.2.2.2⟩
  have hno : o.Nodup := hp.nodup_iff.mpr hn0
  obtain ⟨X, Y, ho⟩ := List.append_of_mem hm
  have hXY : e0 ∉ X ∧ e0 ∉ Y := by
    rw [ho] at hno
    have := hno
    rw [List.nodup_append] at this
    exact ⟨fun z => this.2.2 e0 z e0 (by simp) rfl, (List.nodup_cons.mp this.2.1).1⟩
  have hsp := opn_split e1 e2 up ho hXY.1 hXY.2
  have hXYR : (X ++ Y).Perm R := by
    have q : (e0 :: (X ++ Y)).Perm (e0 :: R) := by
      refine (List.Perm.trans ?_ hp)
      rw [ho]
      exact List.perm_middle.symm
    exact List.Perm.cons_inv q
  have hperm : (opn o e0 e1 e2 up).Perm (e0 :: e1 :: e2 :: R) := by
    rw [hsp]
    have q1 : (X ++ (if up = true then [e0, e1, e2] else [e2, e1, e0]) ++ Y).Perm ((if up = true then [e0, e1, e2] else [e2, e1, e0]) ++ (X ++ Y)) := by
      rw [← List.append_assoc]
      exact List.Perm.append_right Y List.perm_append_comm
    refine q1.trans ?_
    cases up
    · rw [if_neg Bool.false_ne_true]
      have q2 : ([e2, e1, e0] ++ (X ++ Y)).Perm ([e0, e1, e2] ++ (X ++ Y)) := List.Perm.append_right _ (by
        have := List.reverse_perm [e0, e1, e2]
        exact this)
      exact q2.trans (List.Perm.append_left [e0, e1, e2] hXYR)
    · rw [if_pos rfl]
      exact List.Perm.append_left [e0, e1, e2] hXYR
  have hnp : (opn o e0 e1 e2 up).Nodup := hperm.nodup_iff.mpr hn
  have he0 : hgt o e0 = (X.length : Nat) := hgt_at hno (by rw [ho, List.getElem?_append_right (Nat.le_refl _), Nat.sub_self]; rfl)
  have at3 : ∀ i, i < 3 → (opn o e0 e1 e2 up)[X.length + i]? = (if up = true then [e0, e1, e2] else [e2, e1, e0])[i]? := fun i hi => by
    have l3 : (if up = true then [e0, e1, e2] else [e2, e1, e0]).length = 3 := by cases up <;> rfl
    rw [hsp, List.append_assoc, List.getElem?_append_right (by omega), List.getElem?_append_left (by omega)]
    congr 1
    omega
  refine ⟨hperm, fun w hw => ?_, ?_⟩
  · rcases List.mem_append.mp (hXYR.mem_iff.mpr hw) with hx | hy
    · obtain ⟨i, hi, e, _⟩ := at_hgt hx
      left
      have k1 : hgt o w = (i : Nat) := hgt_at hno (by rw [ho, List.getElem?_append_left hi]; exact e)
      have k2 : hgt (opn o e0 e1 e2 up) w = (i : Nat) := hgt_at hnp (by rw [hsp, List.append_assoc, List.getElem?_append_left hi]; exact e)
      rw [k1, k2, he0]
      omega
    · obtain ⟨i, hi, e, _⟩ := at_hgt hy
      right
      have k1 : hgt o w = ((X.length + 1 + i : Nat) : Int) := hgt_at hno (by
        rw [ho, List.getElem?_append_right (by omega), show X.length + 1 + i - X.length = i + 1 by omega, List.getElem?_cons_succ]
        exact e)
      have k2 : hgt (opn o e0 e1 e2 up) w = ((X.length + 3 + i : Nat) : Int) := hgt_at hnp (by
        have l3 : (if up = true then [e0, e1, e2] else [e2, e1, e0]).length = 3 := by cases up <;> rfl
        rw [hsp, List.getElem?_append_right (by rw [List.length_append]; omega), List.length_append, l3, show X.length + 3 + i - (X.length + 3) = i by omega]
        exact e)
      rw [k1, k2, he0]
      omega
  · have b0 := at3 0 (by omega)
    have b1 := at3 1 (by omega)
    have b2 := at3 2 (by omega)
    rw [he0]
    cases up
    · right
      refine ⟨rfl, ?_, ?_, ?_⟩
      · rw [hgt_at hnp (i := X.length + 2) (by rw [b2]; rfl)]
        omega
      · rw [hgt_at hnp (i := X.length + 1) (by rw [b1]; rfl)]
        omega
      · rw [hgt_at hnp (i := X.length + 0) (by rw [b0]; rfl)]
        omega
    · left
      refine ⟨rfl, ?_, ?_, ?_⟩
      · rw [hgt_at hnp (i := X.length + 0) (by rw [b0]; rfl)]
        omega
      · rw [hgt_at hnp (i := X.length + 1) (by rw [b1]; rfl)]
        omega
      · rw [hgt_at hnp (i := X.length + 2) (by rw [b2]; rfl)]
        omega
theorem lens_len (s : Nat → Int) (W : List Nat) : (lens s W).length = W.length := by
  unfold lens
  rw [List.length_map, cyc_len]
theorem lmk_eq (s : Nat → Int) (m : Nat → Bool) (W : List Nat) : lmk s m W = (lens s W).zip (W.map m) := by
  have e : W.map m = (cyc W).map (m ∘ Prod.fst) := by
    rw [← List.map_map, cyc_fst]
  unfold lmk lens
  rw [e, List.zip_map']
  rfl
theorem lens_rt (s : Nat → Int) (j : Nat) (W : List Nat) : lens s (rt j W) = rt j (lens s W) := by
  unfold lens
  rw [cyc_rt, rt_map]
theorem lmk_rt (s : Nat → Int) (m : Nat → Bool) (j : Nat) (W : List Nat) : lmk s m (rt j W) = rt j (lmk s m W) := by
  unfold lmk
  rw [cyc_rt, rt_map]
theorem four_of {W : List Nat} (h : 4 ≤ W.length) : ∃ e0 e1 e2 y R, W = e0 :: e1 :: e2 :: y :: R := by
  match W, h with
  | e0 :: e1 :: e2 :: y :: R, _ => exact ⟨e0, e1, e2, y, R, rfl⟩
  | [], h => simp at h
  | [_], h => simp at h
  | [_, _], h => simp at h
  | [_, _, _], h => simp at h
theorem cok_head {s : Nat → Int} {m : Nat → Bool} {e0 e1 e2 y : Nat} {R : List Nat} : ((lens s (e0 :: e1 :: e2 :: y :: R)).getD 1 0 = ln s e1 e2 ∧ (lens s (e0 :: e1 :: e2 :: y :: R)).getD 0 0 = ln s e0 e1 ∧ (lens s (e0 :: e1 :: e2 :: y :: R)).getD 2 0 = ln s e2 y) ∧
    (lens s (e0 :: e1 :: e2 :: y :: R)).drop 3 = (lens s (e0 :: y :: R)).drop 1 ∧ lmk s m (e0 :: e1 :: e2 :: y :: R) = (ln s e0 e1, m e0) :: (ln s e1 e2, m e1) :: (ln s e2 y, m e2) :: (lmk s m (e0 :: y :: R)).drop 1 := ⟨⟨rfl, rfl, rfl⟩, rfl, rfl⟩
theorem co_ok {s : Nat → Int} {m : Nat → Bool} : ∀ (f : Nat) (W : List Nat), Rg s W → F f (lmk s m W) → ∃ o, co f (lens s W) W (W.map m) = some o ∧ o.Perm W ∧ Vd s m W (hgt o)
  | 0, W, r, hF => by
    obtain ⟨a, b, x, e⟩ := hF
    have hl := congrArg List.length e
    unfold lmk at hl
    rw [List.length_map, cyc_len] at hl
    match W, hl, r, e with
    | [c, d], _, r, e =>
      have e' : [(ln s c d, m c), (ln s d c, m d)] = [(a, x), (b, x)] := e
      simp only [List.cons.injEq, Prod.mk.injEq, and_true] at e'
      have hcd : m c = m d := e'.1.2.trans e'.2.2.symm
      have m1 : (c, d) ∈ cyc [c, d] := by simp [cyc, lk]
      have al := r.alt _ m1
      dsimp only at al
      have nd : c ≠ d := fun z => by omega
      have vd : ∀ h : Nat → Int, (mk h c d = m d ∧ mk h d c = m c) → Vd s m [c, d] h := fun h hm => by
        refine ⟨fun p hp q hq => ?_, fun p hp q hq hpar heq => ?_, fun p hp => ?_⟩
        · have hp' : p = (c, d) ∨ p = (d, c) := by simpa [cyc, lk] using hp
          have hq' : q = (c, d) ∨ q = (d, c) := by simpa [cyc, lk] using hq
          unfold btw
          rcases hp' with rfl | rfl <;> rcases hq' with rfl | rfl <;> dsimp only <;> omega
        · have hp' : p = (c, d) ∨ p = (d, c) := by simpa [cyc, lk] using hp
          have hq' : q = (c, d) ∨ q = (d, c) := by simpa [cyc, lk] using hq
          unfold btw
          rcases hp' with rfl | rfl <;> rcases hq' with rfl | rfl <;> dsimp only at * <;> omega
        · have hp' : p = (c, d) ∨ p = (d, c) := by simpa [cyc, lk] using hp
          rcases hp' with rfl | rfl
          · exact hm.1
          · exact hm.2
      show ∃ o, (if m c ≠ m d then none else if m c = decide (d % 2 = 1) then some [c, d] else some [d, c]) = some o ∧ _
      rw [if_neg (fun z => z hcd)]
      have n1 : [c, d].Nodup := by simp [nd]
      have n2 : [d, c].Nodup := by simp [nd.symm]
      by_cases q : m c = decide (d % 2 = 1)
      · rw [if_pos q]
        refine ⟨_, rfl, List.Perm.refl _, vd _ ?_⟩
        have h0 : hgt [c, d] c = (0 : Nat) := hgt_at n1 rfl
        have h1 : hgt [c, d] d = (1 : Nat) := hgt_at n1 rfl
        unfold mk
        rw [h0, h1, ← hcd, q]
        by_cases z : d % 2 = 1
        · rw [if_pos z, if_neg (show ¬ c % 2 = 1 by omega), decide_eq_true z]
          exact ⟨rfl, rfl⟩
        · rw [if_neg z, if_pos (show c % 2 = 1 by omega), decide_eq_false z]
          exact ⟨rfl, rfl⟩
      · rw [if_neg q]
        refine ⟨_, rfl, List.Perm.swap _ _ _, vd _ ?_⟩
        have h0 : hgt [d, c] d = (0 : Nat) := hgt_at n2 rfl
        have h1 : hgt [d, c] c = (1 : Nat) := hgt_at n2 rfl
        have q' : m c = !decide (d % 2 = 1) := by
          revert q
          cases m c <;> cases decide (d % 2 = 1) <;> simp
        unfold mk
        rw [h0, h1, ← hcd, q']
        by_cases z : d % 2 = 1
        · rw [if_pos z, if_neg (show ¬ c % 2 = 1 by omega), decide_eq_true z]
          exact ⟨rfl, rfl⟩
        · rw [if_neg z, if_pos (show c % 2 = 1 by omega), decide_eq_false z]
          exact ⟨rfl, rfl⟩
  | f + 1, W, r, hF => by
    have hlen := hF.len
    have hlm : (lmk s m W).length = W.length := by
      unfold lmk
      rw [List.length_map, cyc_len]
    rw [hlm] at hlen
    have hLl := lens_len s W
    have hMl : (W.map m).length = W.length := List.length_map _
    -- what a place that may be crimped is, read off the ring begun anew
    have look : ∀ k, k < W.length → ∃ e0 e1 e2 y R, rt (pk k W.length) W = e0 :: e1 :: e2 :: y :: R ∧ (cok (lens s W) (W.map m) k = true ↔ (ln s e1 e2 ≤ ln s e0 e1 ∧ ln s e1 e2 ≤ ln s e2 y ∧ m e1 ≠ m e2)) := fun k hk => by
      obtain ⟨e0, e1, e2, y, R, e⟩ := four_of (W := rt (pk k W.length) W) (by rw [rt_len]; omega)
      refine ⟨e0, e1, e2, y, R, e, ?_⟩
      rw [cok_iff (by rw [hLl]; exact hk) (by rw [hLl]; omega) (by rw [hLl, hMl]), hLl, ← lens_rt, rt_map, e]
      exact Iff.rfl
    have hex : ∃ k, k < W.length ∧ cok (lens s W) (W.map m) k = true := by
      obtain ⟨P', Q, hr, hs, _⟩ := hF
      obtain ⟨A, B, h1, h2⟩ := hr
      have hA : A.length ≤ W.length := by
        have := congrArg List.length h1
        rw [hlm, List.length_append] at this
        omega
      have hP : P' = rt A.length (lmk s m W) := by
        unfold rt
        rw [h1, List.drop_left, List.take_left, h2]
      have hP2 : ∃ j, j < W.length ∧ P' = rt j (lmk s m W) := by
        by_cases c : A.length < W.length
        · exact ⟨_, c, hP⟩
        · refine ⟨0, by omega, ?_⟩
          rw [hP]
          unfold rt
          rw [List.drop_eq_nil_of_le (by rw [hlm]; omega), List.take_of_length_le (by rw [hlm]; omega)]
          simp
      obtain ⟨j, hj, hP2⟩ := hP2
      refine ⟨nx j W.length, Nat.mod_lt _ (by omega), ?_⟩
      have hpj : pk (nx j W.length) W.length = j := by
        unfold pk nx
        by_cases c : j + 1 < W.length
        · rw [Nat.mod_eq_of_lt c, if_neg (by omega)]
          omega
        · have : j + 1 = W.length := by omega
          rw [this, Nat.mod_self, if_pos rfl]
          omega
      obtain ⟨e0, e1, e2, y, R, e, hk⟩ := look (nx j W.length) (Nat.mod_lt _ (by omega))
      rw [hpj] at e
      rw [hP2, ← lmk_rt, e, cok_head.2.2] at hs
      rw [hk]
      cases hs with
      | mk _ _ _ _ _ _ _ g1 g2 g3 => exact ⟨g1, g2, g3⟩
    have hsp : ∃ k, cspot (lens s W) (W.map m) = some k ∧ k < W.length ∧ cok (lens s W) (W.map m) k = true := by
      unfold cspot
      rw [if_neg (by rw [hLl]; omega)]
      cases q : (List.range (lens s W).length).find? (cok (lens s W) (W.map m)) with
      | none =>
        obtain ⟨k, hk, hc⟩ := hex
        have := List.find?_eq_none.mp q k (List.mem_range.mpr (by rw [hLl]; exact hk))
        exact absurd hc this
      | some k => exact ⟨k, rfl, by have := List.mem_of_find?_eq_some q; rw [List.mem_range, hLl] at this; exact this, List.find?_some q⟩
    obtain ⟨k, hk, hkn, hc⟩ := hsp
    obtain ⟨e0, e1, e2, y, R, e, hlook⟩ := look k hkn
    obtain ⟨c1, c2, c3⟩ := hlook.mp hc
    have r' := r.rt (pk k W.length)
    rw [e] at r'
    obtain ⟨rc, key⟩ := r'.cut c2
    have hF2 : F f (lmk s m (e0 :: y :: R)) := by
      refine conf f (lmk s m (e0 :: e1 :: e2 :: y :: R)) _ (hF.rot ?_) ?_
      · rw [← e, lmk_rt]
        exact rt_Rot _ _
      · have hd : lmk s m (e0 :: y :: R) = (ln s e0 e1 - ln s e1 e2 + ln s e2 y, m e0) :: (lmk s m (e0 :: y :: R)).drop 1 := by
          rw [← key]
          rfl
        rw [hd, cok_head.2.2]
        exact HS.mk _ _ _ _ _ _ _ c1 c2 c3
    obtain ⟨o, ho, hp, hv⟩ := co_ok f (e0 :: y :: R) rc hF2
    obtain ⟨q1, q2, q3⟩ := perm_open (up := (m e1 == decide (e1 % 2 = 1))) hp r'.nd
    refine ⟨opn o e0 e1 e2 (m e1 == decide (e1 % 2 = 1)), ?_, ?_, ?_⟩
    · show (cspot (lens s W) (W.map m)).bind _ = _
      rw [hk]
      show (co f _ _ _).bind _ = _
      rw [hLl, ← lens_rt, rt_map, e]
      have hd : (((lens s (e0 :: e1 :: e2 :: y :: R)).getD 0 0 + (lens s (e0 :: e1 :: e2 :: y :: R)).getD 2 0 - (lens s (e0 :: e1 :: e2 :: y :: R)).getD 1 0) :: (lens s (e0 :: e1 :: e2 :: y :: R)).drop 3) = lens s (e0 :: y :: R) := by
        show (ln s e0 e1 + ln s e2 y - ln s e1 e2) :: (lens s (e0 :: y :: R)).drop 1 = _
        have : ln s e0 e1 + ln s e2 y - ln s e1 e2 = ln s e0 y := by omega
        rw [this]
        rfl
      rw [hd]
      show (co f (lens s (e0 :: y :: R)) (e0 :: y :: R) ((e0 :: y :: R).map m)).bind _ = _
      rw [ho]
      rfl
    · refine q1.trans ?_
      rw [← e]
      unfold rt
      have := List.perm_append_comm (l₁ := W.drop (pk k W.length)) (l₂ := W.take (pk k W.length))
      rw [List.take_append_drop] at this
      exact this
    · refine Vd.back (j := pk k W.length) ?_
      rw [e]
      exact vd_open r' c1 c2 c3 hv q2 rfl q3
end CC

/-! ## M4 -/
/-! Gaps, spots, heights as lists; what shuts, by lists; turned about, begun anew, from the other end. Plain Lean. -/
namespace CC
def Ev (n : Nat) : Prop := n = 2 ∨ n = 4 ∨ n = 6 ∨ n = 8
theorem Ev.le {n : Nat} (h : Ev n) : 2 ≤ n ∧ n ≤ 8 ∧ n % 2 = 0 := by
  rcases h with rfl | rfl | rfl | rfl <;> decide
theorem Ev.of {n : Nat} (h1 : 2 ≤ n) (h2 : n ≤ 8) (h3 : n % 2 = 0) : Ev n := by
  unfold Ev
  omega
theorem nx_lt {w n : Nat} (h : w < n) : nx w n < n := Nat.mod_lt _ (Nat.lt_of_le_of_lt (Nat.zero_le _) h)
/-- strictly between -/
def bwb (a b x : Int) : Bool := decide ((a < x ∧ x < b) ∨ (b < x ∧ x < a))
theorem bwb_iff {a b x : Int} : bwb a b x = true ↔ btw a b x := by
  unfold bwb btw
  exact decide_eq_true_iff
/-- nothing shuts at crease c, by spots and heights -/
def NBf (n : Nat) (s h : Nat → Int) (c : Nat) : Prop :=
  (∀ w, w < n → ¬ (bwb (h (pk c n)) (h c) (h w) = true ∧ bwb (s w) (s (nx w n)) (s c) = true)) ∧
  ∀ m, m < n → m % 2 = c % 2 → s m = s c → bwb (h (pk c n)) (h c) (h (pk m n)) = bwb (h (pk c n)) (h c) (h m)
def NB (ss hs : List Int) (c : Nat) : Prop := NBf ss.length (fun i => ss.getD i 0) (fun i => hs.getD i 0) c
/-- the mark that the heights give crease c -/
def mB (n : Nat) (h : Nat → Int) (c : Nat) : Bool := if c % 2 = 0 then decide (h c < h (pk c n)) else decide (h (pk c n) < h c)
theorem NBf.congr {n : Nat} {s s' h h' : Nat → Int} {c : Nat} (hc : c < n) (hs : ∀ i, i < n → s' i = s i) (hh : ∀ i, i < n → h' i = h i) (nb : NBf n s h c) : NBf n s' h' c := by
  have hp := pk_lt hc
  refine ⟨fun w hw => ?_, fun m hm h1 h2 => ?_⟩
  · rw [hh _ hp, hh _ hc, hh _ hw, hs _ hw, hs _ (nx_lt hw), hs _ hc]
    exact nb.1 w hw
  · rw [hs _ hm, hs _ hc] at h2
    rw [hh _ hp, hh _ hc, hh _ hm, hh _ (pk_lt hm)]
    exact nb.2 m hm h1 h2
theorem mB_congr {n : Nat} {h h' : Nat → Int} {c : Nat} (hc : c < n) (hh : ∀ i, i < n → h' i = h i) : mB n h' c = mB n h c := by
  unfold mB
  rw [hh _ hc, hh _ (pk_lt hc)]

/-! ### gaps -/
/-- the first, less the second, and so on -/
def alt : List Int → Int
  | [] => 0
  | x :: r => x - alt r
structure Good (ns : List Int) : Prop where
  ev : Ev ns.length
  pos : ∀ x ∈ ns, 1 ≤ x
  bal : alt ns = 0
def sp (ns : List Int) (i : Nat) : Int := alt (ns.take i)
def spl (ns : List Int) : List Int := (List.range ns.length).map (sp ns)
theorem sp_step (ns : List Int) : ∀ (i : Nat), i < ns.length → sp ns (i + 1) = if i % 2 = 0 then sp ns i + ns.getD i 0 else sp ns i - ns.getD i 0 := by
  have key : ∀ (l : List Int) (i : Nat), i < l.length → alt (l.take (i + 1)) = if i % 2 = 0 then alt (l.take i) + l.getD i 0 else alt (l.take i) - l.getD i 0 := by
    intro l
    induction l with
    | nil =>
      intro i h
      simp at h
    | cons x r ih =>
      intro i h
      match i with
      | 0 => simp [alt]
      | i + 1 =>
        have h' : i < r.length := by simpa using h
        have q := ih i h'
        show x - alt (r.take (i + 1)) = if (i + 1) % 2 = 0 then (x - alt (r.take i)) + r.getD i 0 else (x - alt (r.take i)) - r.getD i 0
        rw [q]
        by_cases c : i % 2 = 0
        · rw [if_pos c, if_neg (by omega)]
          omega
        · rw [if_neg c, if_pos (by omega)]
          omega
  exact key ns
/-- every second one, from the first -/
def evS (ns : List Int) (i : Nat) : List Int := ((List.range i).filter fun k => k % 2 == 0).map fun k => ns.getD k 0
theorem evS_step (ns : List Int) (i : Nat) : evS ns (i + 1) = evS ns i ++ if i % 2 = 0 then [ns.getD i 0] else [] := by
  unfold evS
  rw [List.range_succ, List.filter_append, List.map_append]
  congr 1
  by_cases c : i % 2 = 0
  · rw [if_pos c, List.filter_cons_of_pos (by simpa using c)]
    rfl
  · rw [if_neg c, List.filter_cons_of_neg (by simpa using c)]
    rfl
theorem len2 {α : Type} {l : List α} (h : l.length = 2) : ∃ a b, l = [a, b] := by
  match l, h with
  | [a, b], _ => exact ⟨a, b, rfl⟩
theorem len4 {α : Type} {l : List α} (h : l.length = 4) : ∃ a b c d, l = [a, b, c, d] := by
  match l, h with
  | [a, b, c, d], _ => exact ⟨a, b, c, d, rfl⟩
theorem len6 {α : Type} {l : List α} (h : l.length = 6) : ∃ a b c d e f, l = [a, b, c, d, e, f] := by
  match l, h with
  | [a, b, c, d, e, f], _ => exact ⟨a, b, c, d, e, f, rfl⟩
theorem len8 {α : Type} {l : List α} (h : l.length = 8) : ∃ a b c d e f g i, l = [a, b, c, d, e, f, g, i] := by
  match l, h with
  | [a, b, c, d, e, f, g, i], _ => exact ⟨a, b, c, d, e, f, g, i, rfl⟩
theorem Good.half {ns : List Int} (g : Good ns) : (evS ns ns.length).sum * 2 = ns.sum := by
  have b := g.bal
  rcases g.ev with h | h | h | h
  · obtain ⟨a, c, rfl⟩ := len2 h
    simp [alt, evS, List.range_succ] at b ⊢
    omega
  · obtain ⟨a, c, d, e, rfl⟩ := len4 h
    simp [alt, evS, List.range_succ] at b ⊢
    omega
  · obtain ⟨a, c, d, e, a', c', rfl⟩ := len6 h
    simp [alt, evS, List.range_succ] at b ⊢
    omega
  · obtain ⟨a, c, d, e, a', c', d', e', rfl⟩ := len8 h
    simp [alt, evS, List.range_succ] at b ⊢
    omega
theorem Good.rev {ns : List Int} (g : Good ns) : Good ns.reverse := by
  refine ⟨by rw [List.length_reverse]; exact g.ev, fun x hx => g.pos x (List.mem_reverse.mp hx), ?_⟩
  have b := g.bal
  rcases g.ev with h | h | h | h
  · obtain ⟨a, c, rfl⟩ := len2 h
    simp [alt] at b ⊢
    omega
  · obtain ⟨a, c, d, e, rfl⟩ := len4 h
    simp [alt] at b ⊢
    omega
  · obtain ⟨a, c, d, e, a', c', rfl⟩ := len6 h
    simp [alt] at b ⊢
    omega
  · obtain ⟨a, c, d, e, a', c', d', e', rfl⟩ := len8 h
    simp [alt] at b ⊢
    omega
theorem Good.later {ns : List Int} (g : Good ns) : Good (ns.drop 2 ++ ns.take 2) := by
  have v := g.ev.le
  refine ⟨by rw [List.length_append, List.length_drop, List.length_take, show ns.length - 2 + min 2 ns.length = ns.length by omega]; exact g.ev, fun x hx => g.pos x ?_, ?_⟩
  · rcases List.mem_append.mp hx with h | h
    · exact List.mem_of_mem_drop h
    · exact List.mem_of_mem_take h
  have b := g.bal
  rcases g.ev with h | h | h | h
  · obtain ⟨a, c, rfl⟩ := len2 h
    simp [alt] at b ⊢
    omega
  · obtain ⟨a, c, d, e, rfl⟩ := len4 h
    simp [alt] at b ⊢
    omega
  · obtain ⟨a, c, d, e, a', c', rfl⟩ := len6 h
    simp [alt] at b ⊢
    omega
  · obtain ⟨a, c, d, e, a', c', d', e', rfl⟩ := len8 h
    simp [alt] at b ⊢
    omega
theorem sp_rev {ns : List Int} (g : Good ns) {i : Nat} (hi : i < ns.length) : sp ns.reverse i = sp ns ((ns.length - i) % ns.length) := by
  have b := g.bal
  rcases g.ev with h | h | h | h
  · rw [h] at hi ⊢
    obtain ⟨a, c, rfl⟩ := len2 h
    have q : i = 0 ∨ i = 1 := by omega
    rcases q with rfl | rfl <;> simp [sp, alt] at b ⊢ <;> omega
  · rw [h] at hi ⊢
    obtain ⟨a, c, d, e, rfl⟩ := len4 h
    have q : i = 0 ∨ i = 1 ∨ i = 2 ∨ i = 3 := by omega
    rcases q with rfl | rfl | rfl | rfl <;> simp [sp, alt] at b ⊢ <;> omega
  · rw [h] at hi ⊢
    obtain ⟨a, c, d, e, a', c', rfl⟩ := len6 h
    have q : i = 0 ∨ i = 1 ∨ i = 2 ∨ i = 3 ∨ i = 4 ∨ i = 5 := by omega
    rcases q with rfl | rfl | rfl | rfl | rfl | rfl <;> simp [sp, alt] at b ⊢ <;> omega
  · rw [h] at hi ⊢
    obtain ⟨a, c, d, e, a', c', d', e', rfl⟩ := len8 h
    have q : i = 0 ∨ i = 1 ∨ i = 2 ∨ i = 3 ∨ i = 4 ∨ i = 5 ∨ i = 6 ∨ i = 7 := by omega
    rcases q with rfl | rfl | rfl | rfl | rfl | rfl | rfl | rfl <;> simp [sp, alt] at b ⊢ <;> omega
theorem sp_later {ns : List Int} (g : Good ns) {i : Nat} (hi : i < ns.length) : sp (ns.drop 2 ++ ns.take 2) i = sp ns ((i + 2) % ns.length) - sp ns (2 % ns.length) := by
  have b := g.bal
  rcases g.ev with h | h | h | h
  · rw [h] at hi ⊢
    obtain ⟨a, c, rfl⟩ := len2 h
    have q : i = 0 ∨ i = 1 := by omega
    rcases q with rfl | rfl <;> simp [sp, alt] at b ⊢ <;> omega
  · rw [h] at hi ⊢
    obtain ⟨a, c, d, e, rfl⟩ := len4 h
    have q : i = 0 ∨ i = 1 ∨ i = 2 ∨ i = 3 := by omega
    rcases q with rfl | rfl | rfl | rfl <;> simp [sp, alt] at b ⊢ <;> omega
  · rw [h] at hi ⊢
    obtain ⟨a, c, d, e, a', c', rfl⟩ := len6 h
    have q : i = 0 ∨ i = 1 ∨ i = 2 ∨ i = 3 ∨ i = 4 ∨ i = 5 := by omega
    rcases q with rfl | rfl | rfl | rfl | rfl | rfl <;> simp [sp, alt] at b ⊢ <;> omega
  · rw [h] at hi ⊢
    obtain ⟨a, c, d, e, a', c', d', e', rfl⟩ := len8 h
    have q : i = 0 ∨ i = 1 ∨ i = 2 ∨ i = 3 ∨ i = 4 ∨ i = 5 ∨ i = 6 ∨ i = 7 := by omega
    rcases q with rfl | rfl | rfl | rfl | rfl | rfl | rfl | rfl <;> simp [sp, alt] at b ⊢ <;> omega
/-- the ring of all wedges -/
theorem lens_all {ns : List Int} (g : Good ns) : lens (sp ns) (List.range ns.length) = ns := by
  have b := g.bal
  rcases g.ev with h | h | h | h <;> rw [h]
  · obtain ⟨a, c, rfl⟩ := len2 h
    simp [sp, alt, lens, cyc, lk, ln, List.range_succ] at b ⊢
    omega
  · obtain ⟨a, c, d, e, rfl⟩ := len4 h
    simp [sp, alt, lens, cyc, lk, ln, List.range_succ] at b ⊢
    omega
  · obtain ⟨a, c, d, e, a', c', rfl⟩ := len6 h
    simp [sp, alt, lens, cyc, lk, ln, List.range_succ] at b ⊢
    omega
  · obtain ⟨a, c, d, e, a', c', d', e', rfl⟩ := len8 h
    simp [sp, alt, lens, cyc, lk, ln, List.range_succ] at b ⊢
    omega
theorem alt_all {n : Nat} (h : Ev n) : ∀ p ∈ cyc (List.range n), (p.1 + p.2) % 2 = 1 := by
  rcases h with rfl | rfl | rfl | rfl <;> decide
theorem in_all {n : Nat} (h : Ev n) {c : Nat} (hc : c < n) : (pk c n, c) ∈ cyc (List.range n) ∧ (c, nx c n) ∈ cyc (List.range n) := by
  have key : ∀ n ∈ [2, 4, 6, 8], ∀ c ∈ List.range n, (pk c n, c) ∈ cyc (List.range n) ∧ (c, nx c n) ∈ cyc (List.range n) := by decide
  refine key n ?_ c (List.mem_range.mpr hc)
  rcases h with rfl | rfl | rfl | rfl <;> decide
theorem rg_all {ns : List Int} (g : Good ns) : Rg (sp ns) (List.range ns.length) := by
  refine ⟨List.nodup_range, alt_all g.ev, fun p hp => ?_⟩
  have hm : ln (sp ns) p.1 p.2 ∈ lens (sp ns) (List.range ns.length) := List.mem_map_of_mem (f := fun p : Nat × Nat => ln (sp ns) p.1 p.2) hp
  rw [lens_all g] at hm
  have := g.pos _ hm
  omega
/-- from the ring's words to those by lists -/
theorem nb_of {n : Nat} {s h : Nat → Int} {m : Nat → Bool} (e : Ev n) (v : Vd s m (List.range n) h) {c : Nat} (hc : c < n) : NBf n s h c ∧ mB n h c = m c := by
  have a1 := (in_all e hc).1
  refine ⟨⟨fun w hw => ?_, fun q hq h1 h2 => ?_⟩, ?_⟩
  · have k := v.wed _ a1 _ (in_all e hw).2
    rw [bwb_iff, bwb_iff]
    exact k
  · have k := v.cre _ a1 _ (in_all e hq).1 (by dsimp only; omega) h2.symm
    rw [Bool.eq_iff_iff, bwb_iff, bwb_iff]
    exact k
  · have k := v.mrk _ a1
    rw [← k]
    unfold mB mk
    dsimp only
    by_cases z : c % 2 = 0
    · rw [if_pos z, if_neg (by omega)]
    · rw [if_neg z, if_pos (by omega)]

/-! ### turned about -/
theorem bwb_flip (k a b x : Int) : bwb (k - a) (k - b) (k - x) = bwb a b x := by
  unfold bwb
  refine decide_eq_decide.mpr ?_
  omega
theorem bwb_shift (k a b x : Int) : bwb (a - k) (b - k) (x - k) = bwb a b x := by
  unfold bwb
  refine decide_eq_decide.mpr ?_
  omega
theorem bwb_comm (a b x : Int) : bwb a b x = bwb b a x := by
  unfold bwb
  refine decide_eq_decide.mpr ?_
  omega
theorem nb_flip {n : Nat} {s h : Nat → Int} {c : Nat} (k : Int) (nb : NBf n s h c) : NBf n s (fun i => k - h i) c := by
  refine ⟨fun w hw => ?_, fun m hm h1 h2 => ?_⟩
  · rw [bwb_flip]
    exact nb.1 w hw
  · rw [bwb_flip, bwb_flip]
    exact nb.2 m hm h1 h2
theorem mB_flip {n : Nat} {h : Nat → Int} {c : Nat} (k : Int) (hne : h c ≠ h (pk c n)) : mB n (fun i => k - h i) c = !mB n h c := by
  unfold mB
  dsimp only
  split
  · by_cases z : h c < h (pk c n)
    · rw [decide_eq_true z, decide_eq_false (by omega)]
      rfl
    · rw [decide_eq_false z, decide_eq_true (by omega)]
      rfl
  · by_cases z : h (pk c n) < h c
    · rw [decide_eq_true z, decide_eq_false (by omega)]
      rfl
    · rw [decide_eq_false z, decide_eq_true (by omega)]
      rfl
theorem nb_later {n : Nat} (e : Ev n) {s h s' h' : Nat → Int} {c : Nat} (k : Int) (hc : c < n) (hs : ∀ i, i < n → s' i = s ((i + 2) % n) - k) (hh : ∀ i, i < n → h' i = h ((i + 2) % n)) (nb : NBf n s h ((c + 2) % n)) :
    NBf n s' h' c ∧ mB n h' c = mB n h ((c + 2) % n) := by
  have v := e.le
  have hp : ∀ i, i < n → pk ((i + 2) % n) n = (pk i n + 2) % n := fun i hi => by
    have key : ∀ n ∈ [2, 4, 6, 8], ∀ c ∈ List.range n, pk ((c + 2) % n) n = (pk c n + 2) % n := by decide
    refine key n ?_ i (List.mem_range.mpr hi)
    rcases e with rfl | rfl | rfl | rfl <;> decide
  have hx : ∀ i, i < n → nx ((i + 2) % n) n = (nx i n + 2) % n := fun i hi => by
    have key : ∀ n ∈ [2, 4, 6, 8], ∀ c ∈ List.range n, nx ((c + 2) % n) n = (nx c n + 2) % n := by decide
    refine key n ?_ i (List.mem_range.mpr hi)
    rcases e with rfl | rfl | rfl | rfl <;> decide
  have hq : ∀ i, ((i + 2) % n) % 2 = i % 2 := fun i => by
    rcases e with rfl | rfl | rfl | rfl <;> omega
  have hlt : ∀ i, (i + 2) % n < n := fun i => Nat.mod_lt _ (by omega)
  refine ⟨⟨fun w hw => ?_, fun m hm h1 h2 => ?_⟩, ?_⟩
  · have q := nb.1 _ (hlt w)
    rw [hp c hc, hx w hw] at q
    rw [hh _ (pk_lt hc), hh _ hc, hh _ hw, hs _ hw, hs _ (nx_lt hw), hs _ hc, bwb_shift]
    exact q
  · rw [hs _ hm, hs _ hc] at h2
    have q := nb.2 _ (hlt m) (by rw [hq, hq]; exact h1) (by omega)
    rw [hp c hc, hp m hm] at q
    rw [hh _ (pk_lt hc), hh _ hc, hh _ hm, hh _ (pk_lt hm)]
    exact q
  · unfold mB
    rw [hh _ hc, hh _ (pk_lt hc), hp c hc, hq c]
theorem nb_mirror {n : Nat} (e : Ev n) {s h s' h' : Nat → Int} {c : Nat} (hc : c < n) (hs : ∀ i, i < n → s' i = s ((n - i) % n)) (hh : ∀ i, i < n → h' i = h (n - 1 - i)) (nb : NBf n s h ((n - c) % n)) (hne : h ((n - c) % n) ≠ h (pk ((n - c) % n) n)) :
    NBf n s' h' c ∧ mB n h' c = !mB n h ((n - c) % n) := by
  have v := e.le
  have hp : ∀ i, i < n → n - 1 - pk i n = (n - i) % n := fun i hi => by
    have key : ∀ n ∈ [2, 4, 6, 8], ∀ c ∈ List.range n, n - 1 - pk c n = (n - c) % n := by decide
    refine key n ?_ i (List.mem_range.mpr hi)
    rcases e with rfl | rfl | rfl | rfl <;> decide
  have hp2 : ∀ i, i < n → n - 1 - i = pk ((n - i) % n) n := fun i hi => by
    have key : ∀ n ∈ [2, 4, 6, 8], ∀ c ∈ List.range n, n - 1 - c = pk ((n - c) % n) n := by decide
    refine key n ?_ i (List.mem_range.mpr hi)
    rcases e with rfl | rfl | rfl | rfl <;> decide
  have hx : ∀ i, i < n → (n - nx i n) % n = n - 1 - i ∧ nx (n - 1 - i) n = (n - i) % n := fun i hi => by
    have key : ∀ n ∈ [2, 4, 6, 8], ∀ c ∈ List.range n, (n - nx c n) % n = n - 1 - c ∧ nx (n - 1 - c) n = (n - c) % n := by decide
    refine key n ?_ i (List.mem_range.mpr hi)
    rcases e with rfl | rfl | rfl | rfl <;> decide
  have hq : ∀ i, i < n → ((n - i) % n) % 2 = i % 2 := fun i hi => by
    rcases e with rfl | rfl | rfl | rfl <;> omega
  have hlt : ∀ i, (n - i) % n < n := fun i => Nat.mod_lt _ (by omega)
  refine ⟨⟨fun w hw => ?_, fun m hm h1 h2 => ?_⟩, ?_⟩
  · have q := nb.1 (n - 1 - w) (by omega)
    rw [(hx w hw).2] at q
    rw [hh _ (pk_lt hc), hh _ hc, hh _ hw, hs _ hw, hs _ (nx_lt hw), hs _ hc, hp c hc, hp2 c hc, (hx w hw).1, bwb_comm, bwb_comm (s ((n - w) % n))]
    exact q
  · rw [hs _ hm, hs _ hc] at h2
    have q := nb.2 _ (hlt m) (by rw [hq m hm, hq c hc]; exact h1) h2
    rw [hh _ (pk_lt hc), hh _ hc, hh _ hm, hh _ (pk_lt hm), hp c hc, hp m hm, hp2 c hc, hp2 m hm, bwb_comm, bwb_comm _ _ (h (pk ((n - m) % n) n))]
    exact q.symm
  · unfold mB
    rw [hh _ hc, hh _ (pk_lt hc), hp c hc, hp2 c hc, hq c hc]
    split
    · by_cases z : h ((n - c) % n) < h (pk ((n - c) % n) n)
      · rw [decide_eq_true z, decide_eq_false (by omega)]
        rfl
      · rw [decide_eq_false z, decide_eq_true (by omega)]
        rfl
    · by_cases z : h (pk ((n - c) % n) n) < h ((n - c) % n)
      · rw [decide_eq_true z, decide_eq_false (by omega)]
        rfl
      · rw [decide_eq_false z, decide_eq_true (by omega)]
        rfl

/-! ### orders -/
theorem all_ok {ns : List Int} {ms : List Bool} (g : Good ns) (hl : ms.length = ns.length) (hF : F (ns.length / 2 - 1) (ns.zip ms)) :
    ∃ o, co (ns.length / 2 - 1) ns (List.range ns.length) ms = some o ∧ o.Perm (List.range ns.length) ∧ ∀ c, c < ns.length → NBf ns.length (sp ns) (hgt o) c ∧ mB ns.length (hgt o) c = ms.getD c false := by
  have hm : (List.range ns.length).map (fun i => ms.getD i false) = ms := by
    apply List.ext_getElem?
    intro i
    rw [List.getElem?_map]
    by_cases c : i < ns.length
    · rw [List.getElem?_range c, List.getElem?_eq_getElem (by omega)]
      show some (ms.getD i false) = _
      rw [List.getD_eq_getElem?_getD, List.getElem?_eq_getElem (by omega)]
      rfl
    · rw [List.getElem?_eq_none (by rw [List.length_range]; omega), List.getElem?_eq_none (by omega)]
      rfl
  have hz : lmk (sp ns) (fun i => ms.getD i false) (List.range ns.length) = ns.zip ms := by
    rw [lmk_eq, lens_all g, hm]
  rw [← hz] at hF
  obtain ⟨o, h1, h2, h3⟩ := co_ok _ _ (rg_all g) hF
  rw [lens_all g, hm] at h1
  exact ⟨o, h1, h2, fun c hc => nb_of g.ev h3 hc⟩
theorem perm_mem {o : List Nat} {n : Nat} (hp : o.Perm (List.range n)) {w : Nat} : w ∈ o ↔ w < n := by
  rw [hp.mem_iff, List.mem_range]
theorem perm_nd {o : List Nat} {n : Nat} (hp : o.Perm (List.range n)) : o.Nodup := hp.nodup_iff.mpr List.nodup_range
theorem perm_len {o : List Nat} {n : Nat} (hp : o.Perm (List.range n)) : o.length = n := by
  rw [hp.length_eq, List.length_range]
theorem hgt_ne {o : List Nat} {n : Nat} (hp : o.Perm (List.range n)) {a b : Nat} (ha : a < n) (hb : b < n) (h : a ≠ b) : hgt o a ≠ hgt o b := by
  obtain ⟨i, _, e1, e2⟩ := at_hgt ((perm_mem hp).mpr ha)
  obtain ⟨j, _, e3, e4⟩ := at_hgt ((perm_mem hp).mpr hb)
  intro z
  rw [e2, e4] at z
  have ij : i = j := by omega
  rw [ij, e3] at e1
  exact h (Option.some.inj e1).symm
theorem pk_ne {c n : Nat} (h : 2 ≤ n) (_ : c < n) : c ≠ pk c n := by
  unfold pk
  split <;> omega
theorem hgt_rev {o : List Nat} {n : Nat} (hp : o.Perm (List.range n)) {w : Nat} (hw : w < n) : hgt o.reverse w = ((n - 1 : Nat) : Int) - hgt o w := by
  obtain ⟨i, hi, e1, e2⟩ := at_hgt ((perm_mem hp).mpr hw)
  have hl := perm_len hp
  have e : o.reverse[n - 1 - i]? = some w := by
    rw [List.getElem?_reverse (by omega), hl, show n - 1 - (n - 1 - i) = i by omega]
    exact e1
  rw [hgt_at (((List.reverse_perm o).nodup_iff.mpr (perm_nd hp))) e, e2]
  omega
theorem rev_perm {o : List Nat} {n : Nat} (hp : o.Perm (List.range n)) : o.reverse.Perm (List.range n) := (List.reverse_perm o).trans hp
/-- an order by new numbers -/
theorem map_perm {o : List Nat} {n : Nat} {f g : Nat → Nat} (hp : o.Perm (List.range n)) (hf : ∀ w, w < n → f w < n) (hg : ∀ w, w < n → g w < n) (hgf : ∀ w, w < n → g (f w) = w) (hfg : ∀ w, w < n → f (g w) = w) :
    (o.map f).Perm (List.range n) ∧ ∀ w, w < n → hgt (o.map f) w = hgt o (g w) := by
  have q1 : (o.map f).Nodup := by
    refine List.pairwise_map.mpr ((perm_nd hp).imp_of_mem fun {x y} hx hy hne e => hne ?_)
    have q := congrArg g e
    rw [hgf x ((perm_mem hp).mp hx), hgf y ((perm_mem hp).mp hy)] at q
    exact q
  refine ⟨?_, fun w hw => ?_⟩
  · refine (List.perm_ext_iff_of_nodup q1 List.nodup_range).mpr fun w => ?_
    rw [List.mem_map, List.mem_range]
    constructor
    · rintro ⟨x, hx, rfl⟩
      exact hf x ((perm_mem hp).mp hx)
    · intro hw
      exact ⟨g w, (perm_mem hp).mpr (hg w hw), hfg w hw⟩
  · obtain ⟨i, hi, e1, e2⟩ := at_hgt ((perm_mem hp).mpr (hg w hw))
    rw [e2]
    refine hgt_at q1 ?_
    rw [List.getElem?_map, e1]
    show some (f (g w)) = _
    rw [hfg w hw]
/-- by lists, as the program keeps them -/
def hl (n : Nat) (o : List Nat) : List Int := (List.range n).map (hgt o)
theorem hl_len (n : Nat) (o : List Nat) : (hl n o).length = n := by
  unfold hl
  rw [List.length_map, List.length_range]
theorem spl_len (ns : List Int) : (spl ns).length = ns.length := by
  unfold spl
  rw [List.length_map, List.length_range]
theorem range_getD {f : Nat → Int} {n i : Nat} (h : i < n) : ((List.range n).map f).getD i 0 = f i := by
  rw [List.getD_eq_getElem?_getD, List.getElem?_map, List.getElem?_range h]
  rfl
theorem nb_list {ns : List Int} {o : List Nat} {c : Nat} (hc : c < ns.length) (nb : NBf ns.length (sp ns) (hgt o) c) : NB (spl ns) (hl ns.length o) c := by
  unfold NB
  rw [spl_len]
  exact nb.congr hc (fun i hi => range_getD hi) fun i hi => range_getD hi
/-- the row of marks that heights give -/
def mks (n : Nat) (h : Nat → Int) : List Bool := (List.range n).map (mB n h)
theorem mks_len (n : Nat) (h : Nat → Int) : (mks n h).length = n := by
  unfold mks
  rw [List.length_map, List.length_range]
theorem mks_at {n c : Nat} (h : Nat → Int) (hc : c < n) : (mks n h)[c]? = some (mB n h c) := by
  unfold mks
  rw [List.getElem?_map, List.getElem?_range hc]
  rfl
theorem mks_ext {n : Nat} {h : Nat → Int} {ms : List Bool} (hl : ms.length = n) (e : ∀ c, c < n → mB n h c = ms.getD c false) : mks n h = ms := by
  apply List.ext_getElem?
  intro c
  by_cases hc : c < n
  · rw [mks_at h hc, e c hc, List.getD_eq_getElem?_getD, List.getElem?_eq_getElem (by omega)]
    rfl
  · rw [List.getElem?_eq_none (by rw [mks_len]; omega), List.getElem?_eq_none (by omega)]
/-- what is asked of an order: nothing shuts it, and it has these marks -/
structure Fits (ns : List Int) (o : List Nat) (ms : List Bool) : Prop where
  perm : o.Perm (List.range ns.length)
  nb : ∀ c, c < ns.length → NBf ns.length (sp ns) (hgt o) c
  mrk : mks ns.length (hgt o) = ms
theorem fits_of {ns : List Int} {ms : List Bool} (g : Good ns) (hl : ms.length = ns.length) (hF : F (ns.length / 2 - 1) (ns.zip ms)) :
    ∃ o, co (ns.length / 2 - 1) ns (List.range ns.length) ms = some o ∧ Fits ns o ms := by
  obtain ⟨o, h1, h2, h3⟩ := all_ok g hl hF
  exact ⟨o, h1, h2, fun c hc => (h3 c hc).1, mks_ext hl fun c hc => (h3 c hc).2⟩
theorem Fits.at {ns : List Int} {o : List Nat} {ms : List Bool} (h : Fits ns o ms) {c : Nat} (hc : c < ns.length) : mB ns.length (hgt o) c = ms.getD c false := by
  have e := mks_at (hgt o) hc
  rw [h.mrk] at e
  rw [List.getD_eq_getElem?_getD, e]
  rfl
theorem Fits.len {ns : List Int} {o : List Nat} {ms : List Bool} (h : Fits ns o ms) : ms.length = ns.length := by
  rw [← h.mrk, mks_len]
theorem getD_map_not {ms : List Bool} {c : Nat} (h : c < ms.length) : (ms.map (!·)).getD c false = !ms.getD c false := by
  rw [List.getD_eq_getElem?_getD, List.getElem?_map, List.getD_eq_getElem?_getD, List.getElem?_eq_getElem h]
  rfl
/-- turned about -/
theorem Fits.turned {ns : List Int} {o : List Nat} {ms : List Bool} (g : Good ns) (h : Fits ns o ms) : Fits ns o.reverse (ms.map (!·)) := by
  have v := g.ev.le
  have hh : ∀ i, i < ns.length → hgt o.reverse i = ((ns.length - 1 : Nat) : Int) - hgt o i := fun i hi => hgt_rev h.perm hi
  refine ⟨rev_perm h.perm, fun c hc => (nb_flip _ (h.nb c hc)).congr hc (fun _ _ => rfl) hh, mks_ext (by rw [List.length_map, h.len]) fun c hc => ?_⟩
  rw [mB_congr hc hh, mB_flip _ (hgt_ne h.perm hc (pk_lt hc) (pk_ne v.1 hc)), h.at hc, getD_map_not (by rw [h.len]; exact hc)]
/-- begun anew, two farther on -/
theorem Fits.later {ns : List Int} {o : List Nat} {ms : List Bool} (g : Good ns) (h : Fits ns o ms) : Fits (ns.drop 2 ++ ns.take 2) (o.map fun w => (w + ns.length - 2) % ns.length) (ms.drop 2 ++ ms.take 2) := by
  have v := g.ev.le
  have el : (ns.drop 2 ++ ns.take 2).length = ns.length := by
    rw [List.length_append, List.length_drop, List.length_take]
    omega
  have key : ∀ n ∈ [2, 4, 6, 8], ∀ w ∈ List.range n, ((w + 2) % n + n - 2) % n = w ∧ ((w + n - 2) % n + 2) % n = w := by decide
  have key2 : ∀ w, w < ns.length → ((w + 2) % ns.length + ns.length - 2) % ns.length = w ∧ ((w + ns.length - 2) % ns.length + 2) % ns.length = w := fun w hw => by
    refine key _ ?_ w (List.mem_range.mpr hw)
    rcases g.ev with e | e | e | e <;> rw [e] <;> decide
  obtain ⟨p1, p2⟩ := map_perm (f := fun w => (w + ns.length - 2) % ns.length) (g := fun w => (w + 2) % ns.length) h.perm (fun w hw => Nat.mod_lt _ (by omega)) (fun w hw => Nat.mod_lt _ (by omega)) (fun w hw => (key2 w hw).2) (fun w hw => (key2 w hw).1)
  have hb : ∀ c, c < ns.length → _ := fun c hc => nb_later g.ev (sp ns (2 % ns.length)) hc (s' := sp (ns.drop 2 ++ ns.take 2)) (fun i hi => sp_later g hi) (fun i hi => p2 i hi) (h.nb ((c + 2) % ns.length) (Nat.mod_lt _ (by omega)))
  refine ⟨by rw [el]; exact p1, fun c hc => ?_, mks_ext ?_ fun c hc => ?_⟩
  · rw [el] at hc ⊢
    exact (hb c hc).1
  · rw [List.length_append, List.length_drop, List.length_take, h.len, el]
    omega
  · rw [el] at hc ⊢
    rw [(hb c hc).2, h.at (Nat.mod_lt _ (by omega))]
    have hlm := h.len
    rw [List.getD_eq_getElem?_getD, List.getD_eq_getElem?_getD]
    congr 1
    by_cases z : c + 2 < ns.length
    · rw [List.getElem?_append_left (by rw [List.length_drop]; omega), List.getElem?_drop, Nat.mod_eq_of_lt z, Nat.add_comm]
    · rw [List.getElem?_append_right (by rw [List.length_drop]; omega), List.length_drop, List.getElem?_take_of_lt (by omega), Nat.mod_eq_sub_mod (by omega), Nat.mod_eq_of_lt (by omega)]
      congr 1
      omega
/-- from the other end -/
theorem Fits.mirror {ns : List Int} {o : List Nat} {ms : List Bool} (g : Good ns) (h : Fits ns o ms) : Fits ns.reverse (o.map fun w => ns.length - 1 - w) ((List.range ns.length).map fun k => !ms.getD ((ns.length - k) % ns.length) false) := by
  have v := g.ev.le
  have el : ns.reverse.length = ns.length := List.length_reverse
  obtain ⟨p1, p2⟩ := map_perm (f := fun w => ns.length - 1 - w) (g := fun w => ns.length - 1 - w) h.perm (fun w hw => by omega) (fun w hw => by omega) (fun w hw => by omega) (fun w hw => by omega)
  have hlt : ∀ c, (ns.length - c) % ns.length < ns.length := fun c => Nat.mod_lt _ (by omega)
  have hb : ∀ c, c < ns.length → _ := fun c hc => nb_mirror g.ev hc (s' := sp ns.reverse) (fun i hi => sp_rev g hi) (fun i hi => p2 i hi) (h.nb _ (hlt c)) (hgt_ne h.perm (hlt c) (pk_lt (hlt c)) (pk_ne v.1 (hlt c)))
  refine ⟨by rw [el]; exact p1, fun c hc => ?_, mks_ext (by rw [List.length_map, List.length_range, el]) fun c hc => ?_⟩
  · rw [el] at hc ⊢
    exact (hb c hc).1
  · rw [el] at hc ⊢
    rw [(hb c hc).2, h.at (hlt c)]
    have e : ((List.range ns.length).map fun k => !ms.getD ((ns.length - k) % ns.length) false)[c]? = some (!ms.getD ((ns.length - c) % ns.length) false) := by
      rw [List.getElem?_map, List.getElem?_range hc]
      rfl
    rw [List.getD_eq_getElem?_getD (l := (List.range ns.length).map _), e]
    rfl
end CC

/-! ## M5 -/
/-! The law's gaps: one of them grown so that all come out even. Plain Lean. -/
namespace CC
def dif (fs : List Int) (h : Nat) : List Int := (List.range h).map fun k => fs.getD (2 * k) 0 - fs.getD (2 * k + 1) 0
theorem dif_step (fs : List Int) (h : Nat) : dif fs (h + 1) = dif fs h ++ [fs.getD (2 * h) 0 - fs.getD (2 * h + 1) 0] := by
  unfold dif
  rw [List.range_succ, List.map_append]
  rfl
theorem half_cases {h : Nat} (h1 : 1 ≤ h) (h4 : h ≤ 4) : h = 1 ∨ h = 2 ∨ h = 3 ∨ h = 4 := by omega
theorem dif_sum {fs : List Int} {h : Nat} (hl : fs.length = 2 * h) (h1 : 1 ≤ h) (h4 : h ≤ 4) : (dif fs h).sum = alt fs := by
  rcases half_cases h1 h4 with rfl | rfl | rfl | rfl
  · obtain ⟨a, c, rfl⟩ := len2 hl
    simp [alt, dif, List.range_succ]
  · obtain ⟨a, c, d, e, rfl⟩ := len4 hl
    simp [alt, dif, List.range_succ]
    omega
  · obtain ⟨a, c, d, e, a', c', rfl⟩ := len6 hl
    simp [alt, dif, List.range_succ]
    omega
  · obtain ⟨a, c, d, e, a', c', d', e', rfl⟩ := len8 hl
    simp [alt, dif, List.range_succ]
    omega
theorem grown {fs : List Int} {h j : Nat} (hl : fs.length = 2 * h) (h1 : 1 ≤ h) (h4 : h ≤ 4) (hj : j < h) : alt (fs.set (2 * j) (fs.getD (2 * j) 0 - alt fs)) = 0 ∧ alt (fs.set (2 * j + 1) (fs.getD (2 * j + 1) 0 + alt fs)) = 0 := by
  rcases half_cases h1 h4 with rfl | rfl | rfl | rfl
  · obtain ⟨a, c, rfl⟩ := len2 hl
    have q : j = 0 := by omega
    subst q
    simp [alt]
    omega
  · obtain ⟨a, c, d, e, rfl⟩ := len4 hl
    have q : j = 0 ∨ j = 1 := by omega
    rcases q with rfl | rfl <;> simp [alt] <;> omega
  · obtain ⟨a, c, d, e, a', c', rfl⟩ := len6 hl
    have q : j = 0 ∨ j = 1 ∨ j = 2 := by omega
    rcases q with rfl | rfl | rfl <;> simp [alt] <;> omega
  · obtain ⟨a, c, d, e, a', c', d', e', rfl⟩ := len8 hl
    have q : j = 0 ∨ j = 1 ∨ j = 2 ∨ j = 3 := by omega
    rcases q with rfl | rfl | rfl | rfl <;> simp [alt] <;> omega
theorem ev_half {h : Nat} (h1 : 1 ≤ h) (h4 : h ≤ 4) : Ev (2 * h) := by
  unfold Ev
  omega
theorem good_lo {fs : List Int} {h j : Nat} (hl : fs.length = 2 * h) (h1 : 1 ≤ h) (h4 : h ≤ 4) (hj : j < h) (hp : ∀ x ∈ fs, 1 ≤ x) (hn : alt fs < 0) : Good (fs.set (2 * j) (fs.getD (2 * j) 0 - alt fs)) := by
  refine ⟨by rw [List.length_set, hl]; exact ev_half h1 h4, fun x hx => ?_, (grown hl h1 h4 hj).1⟩
  rcases List.mem_or_eq_of_mem_set hx with h | h
  · exact hp x h
  · have q := hp (fs.getD (2 * j) 0) (by
      rw [List.getD_eq_getElem?_getD, List.getElem?_eq_getElem (by omega)]
      exact List.getElem_mem _)
    omega
theorem good_hi {fs : List Int} {h j : Nat} (hl : fs.length = 2 * h) (h1 : 1 ≤ h) (h4 : h ≤ 4) (hj : j < h) (hp : ∀ x ∈ fs, 1 ≤ x) (hn : ¬ alt fs < 0) : Good (fs.set (2 * j + 1) (fs.getD (2 * j + 1) 0 + alt fs)) := by
  refine ⟨by rw [List.length_set, hl]; exact ev_half h1 h4, fun x hx => ?_, (grown hl h1 h4 hj).2⟩
  rcases List.mem_or_eq_of_mem_set hx with h | h
  · exact hp x h
  · have q := hp (fs.getD (2 * j + 1) 0) (by
      rw [List.getD_eq_getElem?_getD, List.getElem?_eq_getElem (by omega)]
      exact List.getElem_mem _)
    omega
theorem good_two {a : Int} (h : 1 ≤ a) : Good [a, a] := by
  refine ⟨.inl rfl, fun x hx => ?_, ?_⟩
  · simp at hx
    omega
  · simp [alt]
theorem good_four {a b : Int} (h : 1 ≤ a) (h' : 1 ≤ b) : Good [a, b, b, a] := by
  refine ⟨.inr (.inl rfl), fun x hx => ?_, ?_⟩
  · simp at hx
    omega
  · simp [alt]
    omega
end CC

/-! ## M6 -/
/-! The law's row of marks: crimp upon crimp, it folds. Plain Lean. -/
namespace CC
abbrev LW := Int × Nat
def fm (fin : List Bool) (q : LW) : LM := (q.1, fin.getD q.2 false)
structure RowI (ns : List Int) (P : List LW) (ms : List Bool) (f : Nat) : Prop where
  len : P.length = 2 * f + 2
  ml : ms.length = ns.length
  ix : ∀ q ∈ P, q.2 < ns.length
  nd : (P.map Prod.snd).Nodup
  cl : ∀ fin : List Bool, fin.length = ns.length → (∀ i, i < ns.length → i ∉ P.map Prod.snd → fin.getD i false = ms.getD i false) → F f (P.map (fm fin)) → F (ns.length / 2 - 1) (ns.zip fin)
theorem fm_all : ∀ (ns : List Int) (fin : List Bool) (k : Nat), fin.length = ns.length + k → ((ns.zip (List.range' k ns.length)).map (fm fin)) = ns.zip (fin.drop k)
  | [], fin, k, _ => rfl
  | x :: r, fin, k, h => by
    have hk : k < fin.length := by
      rw [h, List.length_cons]
      omega
    have ih := fm_all r fin (k + 1) (by rw [h, List.length_cons]; omega)
    rw [List.length_cons, List.range'_succ, List.zip_cons_cons, List.map_cons, ih, List.drop_eq_getElem_cons hk, List.zip_cons_cons]
    congr 1
    unfold fm
    rw [List.getD_eq_getElem?_getD, List.getElem?_eq_getElem hk]
    rfl
theorem row_start {ns : List Int} (g : Good ns) : RowI ns (ns.zip (List.range ns.length)) (List.replicate ns.length false) (ns.length / 2 - 1) := by
  have v := g.ev.le
  have e : (ns.zip (List.range ns.length)).map Prod.snd = List.range ns.length := List.map_snd_zip (by rw [List.length_range]; exact Nat.le_refl _)
  refine ⟨by rw [List.length_zip, List.length_range]; omega, List.length_replicate, fun q hq => ?_, by rw [e]; exact List.nodup_range, fun fin hf _ h => ?_⟩
  · have := (List.of_mem_zip (show (q.1, q.2) ∈ _ from hq)).2
    exact List.mem_range.mp this
  · rw [List.range_eq_range', fm_all ns fin 0 (by omega), List.drop_zero] at h
    exact h
theorem set_getD {ms : List Bool} {i j : Nat} {b : Bool} (h : i < ms.length) : (ms.set i b).getD j false = if j = i then b else ms.getD j false := by
  rw [List.getD_eq_getElem?_getD, List.getD_eq_getElem?_getD]
  by_cases c : j = i
  · rw [if_pos c, c, List.getElem?_set_self h]
    rfl
  · rw [if_neg c, List.getElem?_set_ne (Ne.symm c)]
theorem RowI.step {ns : List Int} {P : List LW} {ms : List Bool} {f j : Nat} {q0 q1 q2 : LW} {R : List LW} (r : RowI ns P ms (f + 1)) (e : rt j P = q0 :: q1 :: q2 :: R) (h1 : q1.1 ≤ q0.1) (h2 : q1.1 ≤ q2.1) (b : Bool) :
    RowI ns ((q0.1 + q2.1 - q1.1, q0.2) :: R) ((ms.set q1.2 b).set q2.2 (!b)) f := by
  have hmem : ∀ q, q ∈ q0 :: q1 :: q2 :: R ↔ q ∈ P := fun q => by
    rw [← e]
    unfold rt
    rw [List.mem_append, Or.comm, ← List.mem_append, List.take_append_drop]
  have hlen := rt_len j P
  rw [e] at hlen
  have hl := r.len
  have i1 := r.ix q1 ((hmem q1).mp (by simp))
  have i2 := r.ix q2 ((hmem q2).mp (by simp))
  have hnd : ((q0 :: q1 :: q2 :: R).map Prod.snd).Nodup := by
    have hp : ((q0 :: q1 :: q2 :: R).map Prod.snd).Perm (P.map Prod.snd) := by
      rw [← e]
      unfold rt
      rw [List.map_append]
      have q := List.perm_append_comm (l₁ := (P.drop j).map Prod.snd) (l₂ := (P.take j).map Prod.snd)
      rw [← List.map_append, ← List.map_append, List.take_append_drop, List.map_append] at q
      exact q
    exact hp.nodup_iff.mpr r.nd
  simp only [List.map_cons, List.nodup_cons, List.mem_cons, not_or] at hnd
  refine ⟨?_, by rw [List.length_set, List.length_set]; exact r.ml, fun q hq => ?_, ?_, fun fin hf ha h => ?_⟩
  · simp only [List.length_cons] at hlen ⊢
    omega
  · rcases List.mem_cons.mp hq with z | z
    · rw [z]
      exact r.ix q0 ((hmem q0).mp (by simp))
    · exact r.ix q ((hmem q).mp (by simp [z]))
  · simp only [List.map_cons, List.nodup_cons]
    exact ⟨hnd.1.2.2, hnd.2.2.2⟩
  · have f1 : fin.getD q1.2 false = b := by
      rw [ha q1.2 i1 (by simp only [List.map_cons, List.mem_cons, not_or]; exact ⟨fun z => hnd.1.1 z.symm, hnd.2.1.2⟩), set_getD (by rw [List.length_set, r.ml]; exact i2), if_neg hnd.2.1.1, set_getD (by rw [r.ml]; exact i1), if_pos rfl]
    have f2 : fin.getD q2.2 false = !b := by
      rw [ha q2.2 i2 (by simp only [List.map_cons, List.mem_cons, not_or]; exact ⟨fun z => hnd.1.2.1 z.symm, hnd.2.2.1⟩), set_getD (by rw [List.length_set, r.ml]; exact i2), if_pos rfl]
    refine r.cl fin hf (fun i hi hni => ?_) ?_
    · have hni' : i ∉ (q0 :: q1 :: q2 :: R).map Prod.snd := fun z => hni (by
        obtain ⟨q, hq, eq⟩ := List.mem_map.mp z
        exact List.mem_map.mpr ⟨q, (hmem q).mp hq, eq⟩)
      simp only [List.map_cons, List.mem_cons, not_or] at hni'
      rw [ha i hi (by simp only [List.map_cons, List.mem_cons, not_or]; exact ⟨hni'.1, hni'.2.2.2⟩), set_getD (by rw [List.length_set, r.ml]; exact i2), if_neg hni'.2.2.1, set_getD (by rw [r.ml]; exact i1), if_neg hni'.2.1]
    · refine F.rot (rt_Rot j (P.map (fm fin))).symm ?_
      rw [rt_map, e]
      refine ⟨_, _, Rot.refl _, HS.mk q0.1 q1.1 q2.1 (fin.getD q0.2 false) (fin.getD q1.2 false) (fin.getD q2.2 false) (R.map (fm fin)) h1 h2 ?_, ?_⟩
      · rw [f1, f2]
        cases b <;> simp
      · have e2 : q0.1 - q1.1 + q2.1 = q0.1 + q2.1 - q1.1 := by omega
        rw [e2]
        exact h
theorem RowI.fin {ns : List Int} {q0 q1 : LW} {ms : List Bool} (r : RowI ns [q0, q1] ms 0) (b : Bool) : ((ms.set q0.2 b).set q1.2 b).length = ns.length ∧ F (ns.length / 2 - 1) (ns.zip ((ms.set q0.2 b).set q1.2 b)) := by
  have i0 := r.ix q0 (by simp)
  have i1 := r.ix q1 (by simp)
  have hl : ((ms.set q0.2 b).set q1.2 b).length = ns.length := by rw [List.length_set, List.length_set]; exact r.ml
  refine ⟨hl, r.cl _ hl (fun i hi hni => ?_) ⟨q0.1, q1.1, b, ?_⟩⟩
  · simp only [List.map_cons, List.map_nil, List.mem_cons, List.not_mem_nil, or_false, not_or] at hni
    rw [set_getD (by rw [List.length_set, r.ml]; exact i1), if_neg hni.2, set_getD (by rw [r.ml]; exact i0), if_neg hni.1]
  · have e0 : ((ms.set q0.2 b).set q1.2 b).getD q0.2 false = b := by
      rw [set_getD (by rw [List.length_set, r.ml]; exact i1)]
      by_cases c : q0.2 = q1.2
      · rw [if_pos c]
      · rw [if_neg c, set_getD (by rw [r.ml]; exact i0), if_pos rfl]
    have e1 : ((ms.set q0.2 b).set q1.2 b).getD q1.2 false = b := by
      rw [set_getD (by rw [List.length_set, r.ml]; exact i1), if_pos rfl]
    show [fm _ q0, fm _ q1] = _
    unfold fm
    rw [e0, e1]
/-- places of a least neighbour -/
def am1 (L : List Int) (k : Nat) : Bool := decide (L.getD k 0 ≤ mn (L.getD (pk k L.length) 0) (L.getD (nx k L.length) 0))
def amS (L : List Int) (i : Nat) : List Nat := (List.range i).filter (am1 L)
theorem amS_step (L : List Int) (i : Nat) : amS L (i + 1) = amS L i ++ if am1 L i = true then [i] else [] := by
  unfold amS
  rw [List.range_succ, List.filter_append]
  congr 1
  by_cases c : am1 L i = true
  · rw [if_pos c, List.filter_cons_of_pos c]
    rfl
  · rw [if_neg c, List.filter_cons_of_neg c]
    rfl
theorem least_at (f : Nat → Int) : ∀ n : Nat, 1 ≤ n → ∃ k, k < n ∧ ∀ j, j < n → f k ≤ f j
  | 0, h => by omega
  | 1, _ => ⟨0, by omega, fun j hj => by
    have : j = 0 := by omega
    rw [this]
    exact Int.le_refl _⟩
  | n + 2, _ => by
    obtain ⟨k, hk, h⟩ := least_at f (n + 1) (by omega)
    by_cases c : f k ≤ f (n + 1)
    · refine ⟨k, by omega, fun j hj => ?_⟩
      by_cases z : j = n + 1
      · rw [z]
        exact c
      · exact h j (by omega)
    · refine ⟨n + 1, by omega, fun j hj => ?_⟩
      by_cases z : j = n + 1
      · rw [z]
        exact Int.le_refl _
      · have := h j (by omega)
        omega
theorem amS_pos {L : List Int} (h : 1 ≤ L.length) : 0 < (amS L L.length).length := by
  obtain ⟨k, hk, hm⟩ := least_at (fun i => L.getD i 0) L.length h
  have hk2 : k ∈ amS L L.length := by
    unfold amS
    refine List.mem_filter.mpr ⟨List.mem_range.mpr hk, ?_⟩
    unfold am1 mn
    refine decide_eq_true ?_
    have a1 := hm (pk k L.length) (pk_lt hk)
    have a2 := hm (nx k L.length) (nx_lt hk)
    split <;> assumption
  exact List.length_pos_of_mem hk2
theorem am1_iff {L : List Int} {k : Nat} (hk : k < L.length) (h3 : 2 < L.length) : am1 L k = true ↔ ((rt (pk k L.length) L).getD 1 0 ≤ (rt (pk k L.length) L).getD 0 0 ∧ (rt (pk k L.length) L).getD 1 0 ≤ (rt (pk k L.length) L).getD 2 0) := by
  have hp := pk_lt hk
  rw [rt_getD _ hp (show 0 < L.length by omega), rt_getD _ hp (show 1 < L.length by omega), rt_getD _ hp (show 2 < L.length by omega), pk_0 hk, pk_1 hk, pk_2 hk]
  unfold am1 mn
  rw [decide_eq_true_iff]
  constructor
  · intro h
    split at h <;> constructor <;> omega
  · intro h
    split <;> omega
end CC

/-! ## B0 -/
/-! The text by places, what the defs share. -/
namespace CC
open PySem L2
def top (i : Nat) : Stmt := PySem.Challenge.pw_creasecourt_k39_whole_turned_about.main.body.getD i (.Pass ⟨0, 0, 0, 0⟩)
/-- a def of the top, as the module's name holds it -/
structure Df (K : PySem.W.Frag) (mg : Str → Option Value) (x : Str) (st : Stmt) (ps : List Str) (f : Addr) (fd : FuncData) : Prop where
  F : Fun K x x st f fd
  b : Binds K fd ps []
  g : mg x = some (.ref f)
/-- the built-ins that no name of the module hides -/
structure Gb (mg : Str → Option Value) : Prop where
  len : mg "len" = none
  any : mg "any" = none
  sum : mg "sum" = none
  enumerate : mg "enumerate" = none
  sorted : mg "sorted" = none
  list : mg "list" = none
  range : mg "range" = none
  min : mg "min" = none
  max : mg "max" = none
  reversed : mg "reversed" = none
  isinstance : mg "isinstance" = none
theorem same_new {H : Hp} {p : Addr} (h : H p = none) (o : HO) : Same H (upd H p o) := fun b u q => by
  rw [upd_ne (ne_of_none q h)]
  exact q
theorem line_ge {n : Nat} (h : n ≤ 1000) : n ≤ sizeLine := Nat.le_of_lt (small1000 h)
/-- numbers of wedges as ints -/
def oi (ws : List Nat) : List Int := ws.map fun w : Nat => (w : Int)
/-- marks as a text -/
def ch (b : Bool) : Nat := if b = true then 118 else 104
def mS (ms : List Bool) : Str := ⟨(ms.map ch).toArray⟩
theorem mS_len (ms : List Bool) : (mS ms).length = ms.length := by
  show (ms.map ch).toArray.size = _
  simp
theorem mS_tl (ms : List Bool) : (mS ms).cps.toList = ms.map ch := rfl
theorem ch_inj {a b : Bool} (h : ch a = ch b) : a = b := by
  cases a <;> cases b <;> first | rfl | exact absurd h (by decide)
theorem map_ch_inj : ∀ {a b : List Bool}, a.map ch = b.map ch → a = b
  | [], [], _ => rfl
  | [], _ :: _, h => by simp at h
  | _ :: _, [], h => by simp at h
  | x :: a, y :: b, h => by
    simp only [List.map_cons, List.cons.injEq] at h
    rw [ch_inj h.1, map_ch_inj h.2]
theorem mS_inj {a b : List Bool} (h : mS a = mS b) : a = b := map_ch_inj (congrArg (fun z : Str => z.cps.toList) h)
theorem sS_inj {a b : Bool} : ((⟨#[ch a]⟩ : Str) = ⟨#[ch b]⟩) ↔ a = b := by
  constructor
  · intro h
    have e := congrArg (fun z : Str => z.cps.toList) h
    have e2 : [ch a] = [ch b] := e
    exact ch_inj (List.cons.inj e2).1
  · intro h
    rw [h]
theorem str_v : ("v" : Str) = ⟨#[ch true]⟩ := by decide +kernel
theorem str_h : ("h" : Str) = ⟨#[ch false]⟩ := by decide +kernel
theorem oi_len (ws : List Nat) : (oi ws).length = ws.length := List.length_map _
theorem oi_at {ws : List Nat} {i w : Nat} (h : ws[i]? = some w) : (oi ws)[i]? = some (w : Int) := by
  unfold oi
  rw [List.getElem?_map, h]
  rfl
theorem oi_of {ws : List Nat} {i : Nat} {z : Int} (h : (oi ws)[i]? = some z) : ∃ w, ws[i]? = some w ∧ z = (w : Int) := by
  unfold oi at h
  rw [List.getElem?_map] at h
  cases e : ws[i]? with
  | none => rw [e] at h; cases h
  | some w => rw [e] at h; exact ⟨w, rfl, (Option.some.inj h).symm⟩
theorem iv_at {ns : List Int} {i : Nat} {z : Int} (h : ns[i]? = some z) : (ns.map V.int)[i]? = some (.int z) := by
  rw [List.getElem?_map, h]
  rfl
/-- an item by its place, the place as a reckoned int -/
theorem at_nat {α : Type} {xs : List α} {z : Int} {j : Nat} {v : α} (e : z = (j : Int)) (h : xs[j]? = some v) : atI xs z = some v := by
  rw [e]
  exact atI_nat h
/-- .. and from the end: the place ahead of the first is the last -/
theorem at_pk {α : Type} {xs : List α} {k : Nat} {v : α} (hk : k < xs.length) (h : xs[pk k xs.length]? = some v) : atI xs ((k : Int) - 1) = some v := by
  unfold pk at h
  by_cases c : k = 0
  · rw [if_pos c] at h
    subst c
    unfold atI ixN
    rw [if_neg (by omega), if_pos (by omega)]
    have e : (((0 : Nat) : Int) - 1 + (xs.length : Int)).toNat = xs.length - 1 := by omega
    rw [e]
    exact h
  · rw [if_neg c] at h
    have e : (k : Int) - 1 = ((k - 1 : Nat) : Int) := by omega
    rw [e]
    exact atI_nat h
theorem d_at {ns : List Int} {i : Nat} (h : i < ns.length) : ns[i]? = some (ns.getD i 0) := by
  rw [List.getD_eq_getElem?_getD, List.getElem?_eq_getElem h]
  rfl
theorem id_at {ns : List Int} {i : Nat} (h : i < ns.length) : (ns.map V.int)[i]? = some (.int (ns.getD i 0)) := iv_at (d_at h)
theorem id_len (ns : List Int) : (ns.map V.int).length = ns.length := List.length_map _
theorem nx_int (w n : Nat) : ((w : Int) + 1) % (n : Int) = ((nx w n : Nat) : Int) := by
  unfold nx
  rw [Int.natCast_emod]
  rfl
theorem id_pk {ns : List Int} {k : Nat} (h : k < ns.length) : atI (ns.map V.int) ((k : Int) - 1) = some (.int (ns.getD (pk k ns.length) 0)) :=
  at_pk (by rw [id_len]; exact h) (by rw [id_len]; exact id_at (pk_lt h))
theorem bw_no {a b x : Int} (h : ¬ decide ((if b < a then b else a) < x) = true) : bwb a b x = false := by
  have h1 : ¬ (if b < a then b else a) < x := fun z => h (decide_eq_true z)
  refine decide_eq_false fun z => h1 ?_
  split <;> omega
theorem bw_yes {a b x : Int} (h : decide ((if b < a then b else a) < x) = true) : bwb a b x = decide (x < if b > a then b else a) := by
  have h1 : (if b < a then b else a) < x := of_decide_eq_true h
  refine decide_eq_decide.mpr ?_
  constructor
  · intro z
    split <;> omega
  · intro z
    split at h1 <;> split at z <;> omega
theorem pk_int {k n : Nat} (h : k < n) : ((k : Int) - 1) % (n : Int) = ((pk k n : Nat) : Int) := by
  unfold pk
  split
  · subst k
    have e : ((0 : Nat) : Int) - 1 = -1 := rfl
    rw [e]
    have e2 : (-1 : Int) = ((n - 1 : Nat) : Int) + (n : Int) * (-1) := by omega
    rw [e2, Int.add_mul_emod_self_left, Int.emod_eq_of_lt (by omega) (by omega)]
  · rw [Int.emod_eq_of_lt (by omega) (by omega)]
    omega
theorem rg2 {n c : Nat} (h : Ev n) : RgC ((c : Int) % 2) (n : Int) 2 (n / 2) := by
  have hc : (c : Int) % 2 = 0 ∨ (c : Int) % 2 = 1 := by omega
  rcases hc with e | e <;> rw [e] <;> rcases h with rfl | rfl | rfl | rfl <;> exact ⟨by decide, by decide, by decide, by decide⟩
end CC

/-! ## B1 -/
/-! Small words for the walks. -/
namespace CC
open PySem L2
theorem iv_of {ns : List Int} {i : Nat} {x : V} (h : (ns.map V.int)[i]? = some x) : ∃ z, ns[i]? = some z ∧ V.int z = x := by
  rw [List.getElem?_map] at h
  cases e : ns[i]? with
  | none => rw [e] at h; cases h
  | some z => rw [e] at h; exact ⟨z, rfl, Option.some.inj h⟩
theorem take_one {α : Type} {l : List α} {i : Nat} {z : α} (h : l[i]? = some z) : l.take (i + 1) = l.take i ++ [z] := by
  rw [List.take_add_one, h]
  rfl
theorem at_lt {α : Type} {l : List α} {i : Nat} {z : α} (h : l[i]? = some z) : i < l.length := (List.getElem?_eq_some_iff.mp h).1
theorem getD_of {α : Type} {l : List α} {i : Nat} {z d : α} (h : l[i]? = some z) : l.getD i d = z := by
  rw [List.getD_eq_getElem?_getD, h]
  rfl
/-- lists of ints as data -/
def dI (ns : List Int) : PyData := .list (ns.map PyData.int)
theorem dAll {K : PySem.W.Frag} {H : Hp} : ∀ ns : List Int, DpAll K H (ns.map V.int) (ns.map PyData.int)
  | [] => .nil
  | x :: r => .cons (.int x) (dAll r)
theorem dI_ok {K : PySem.W.Frag} {H : Hp} {a : Addr} {ns : List Int} (h : SqL K H a (ns.map V.int)) : Dp K H (.ref a) (dI ns) := .lst h (dAll ns)
theorem lay_all : ∀ ns : List Int, PyData.canLayAll0 (ns.map PyData.int) = true
  | [] => rfl
  | x :: r => by
    show (true && PyData.canLayAll0 (r.map PyData.int)) = true
    rw [lay_all r]
    rfl
theorem deep_all : ∀ ns : List Int, PyData.depthAll (ns.map PyData.int) = 0
  | [] => rfl
  | x :: r => by
    show max 0 (PyData.depthAll (r.map PyData.int)) = 0
    rw [deep_all r]
    rfl
theorem dI_lay (ns : List Int) : (dI ns).canLay0 = true := lay_all ns
theorem dI_shape (ns : List Int) : SeqAt.shaped (dI ns) = true := by
  unfold SeqAt.shaped
  rw [dI_lay, Bool.true_and]
  have e : (dI ns).depth = 1 := by
    show PyData.depthAll (ns.map PyData.int) + 1 = 1
    rw [deep_all]
  rw [e]
  rfl
theorem dI_same (ns : List Int) : PyData.eqv (dI ns) (dI ns) = true := SeqAt.eqv_refl _ (dI_lay ns)
theorem dI_nil {ns : List Int} (h : 0 < ns.length) : PyData.eqv (dI ns) (dI []) = false := by
  show PyData.eqvAll (ns.map PyData.int) [] = false
  match ns, h with
  | x :: r, _ => rfl
/-- a new list's place in the heap behind other new objects -/
theorem s_up {H H' : Hp} {p : Addr} (e : Same H H') (h : H p = none) (o : HO) : Same H (upd H' p o) := fun b u q => by
  rw [upd_ne (ne_of_none q h)]
  exact e b u q
theorem s_nw {H H' : Hp} {p : Addr} (e : Same H H') (h : H' p = none) (o : HO) : Same H (upd H' p o) := e.trans (same_new h o)
theorem rg_oi (n : Nat) : rgV 0 (n : Int) = (oi (List.range n)).map V.int := by
  unfold rgV oi
  have e : ((n : Int) - 0).toNat = n := by omega
  rw [e, List.map_map]
  refine List.map_congr_left fun i _ => ?_
  show V.int (0 + (i : Int)) = V.int (i : Int)
  rw [Int.zero_add]
theorem up_range (n : Nat) : (oi (List.range n)).Pairwise (· ≤ ·) := by
  unfold oi
  refine List.pairwise_map.mpr ?_
  exact List.pairwise_lt_range.imp fun h => by omega
theorem sort_range {o : List Nat} {n : Nat} {ys : List Int} (hp : o.Perm (List.range n)) (h1 : ys.Perm (oi o)) (h2 : ys.Pairwise (· ≤ ·)) : ys = oi (List.range n) :=
  PySem.W.ksm_same (h1.trans (hp.map _)) h2 (up_range n)
theorem rep_zero (n : Nat) : (List.replicate n [V.int 0]).flatten = (List.replicate n (0 : Int)).map V.int := by
  induction n with
  | zero => rfl
  | succ n ih =>
    rw [List.replicate_succ, List.flatten_cons, ih, List.replicate_succ]
    rfl
theorem ix_nat {n k : Nat} (h : k < n) : ixN n (k : Int) = some k := by
  unfold ixN
  rw [if_pos (by omega), if_pos (by omega)]
  congr 1
/-- a set item, then read -/
theorem set_at {fs : List Int} {w : Nat} {z : Int} (h : w < fs.length) : (fs.set w z)[w]? = some z := by
  rw [List.getElem?_set_self h]
end CC

/-! ## D1 -/
namespace CC
open PySem L2
abbrev sReaches : Stmt := top 10
theorem scReaches : FnScope ["spots", "wedge", "spot", "one", "other"] ["spots", "wedge", "spot"] (defScope sReaches) := ⟨rfl, rfl, rfl, by decide +kernel, rfl, by decide +kernel, by decide +kernel⟩
def spReaches (K : PySem.W.Frag) : Sp := fun vs H Q _ => ∃ (a : Addr) (ss : List Int) (w : Nat) (z : Int), vs = [.ref a, .int (w : Nat), .int z] ∧ SqL K H a (ss.map V.int) ∧ w < ss.length ∧
  Q (.bl (bwb (ss.getD w 0) (ss.getD (nx w ss.length) 0) z)) H
section
variable {P : Program} {w : World} {K : PySem.W.Frag} {mg : Str → Option Value} {base : Heap} {f : Addr} {fd : FuncData}
theorem ok_reaches (gb : Gb mg) (D : Df K mg "wedge_reaches" sReaches ["spots", "wedge", "spot"] f fd) : FnOk P w K mg base CX0 1 f fd ["spots", "wedge", "spot"] (spReaches K) := by
  refine D.F.ok scReaches (fun vs H Q E h => ?_) (fun cdv A outer s H vs Q E hr h => ?_)
  · obtain ⟨a, ss, w, z, rfl, _⟩ := h
    rfl
  obtain ⟨a, ss, w, z, rfl, hS, hw, q⟩ := h
  refine ⟨_, pss_cons (ps_set (i := 3) scReaches.nd rfl (.inl rfl) (pe_ix ix_list (pv 0) (pv 1) (fun _ _ => rfl)))
    (pss_cons (ps_set (i := 4) scReaches.nd rfl (.inl rfl) (pe_ix ix_list (pv 0) (pe_op op_mod (pe_op op_add (pv 1) pe_int) (pe_callB call_len_seq (by rfl) gb.len PySem.boot_len (pa_cons (pv 0) pa_nil))) (fun _ _ => rfl)))
    (pss_one (ps_ret (pe_and (pe_cmpR op_lt (pe_callB (call_min2 rfl) (by rfl) gb.min (by decide +kernel) (pa_cons (pv 3) (pa_cons (pv 4) pa_nil))) (pv 2) (nomark _)) (pe_one (pe_cmpR op_lt (pv 2) (pe_callB (call_max2 rfl) (by rfl) gb.max (by decide +kernel) (pa_cons (pv 3) (pa_cons (pv 4) pa_nil))) (nomark _))))))), ?_⟩
  have hl := id_len ss
  refine ⟨_, rfl, _, rfl, a, _, _, _, rfl, rfl, hS, at_nat rfl (id_at hw), ?_⟩
  refine ⟨_, rfl, _, rfl, _, _, rfl, rfl, _, rfl, a, _, rfl, .inl hS, _, _, rfl, rfl, (by rw [hl]; omega), a, _, _, _, rfl, rfl, hS, at_nat (by rw [hl, nx_int]) (id_at (nx_lt hw)), ?_⟩
  refine ⟨_, rfl, _, rfl, _, _, rfl, _, rfl, _, _, rfl, rfl, _, rfl, ?_⟩
  refine ite2 (fun c => ?_) (fun c => ?_)
  · refine ⟨_, rfl, _, rfl, _, rfl, _, _, rfl, _, _, rfl, rfl, ?_⟩
    rw [bw_yes c] at q
    exact q
  · rw [bw_no c] at q
    exact q

end
abbrev sAmid : Stmt := top 11
theorem scAmid : FnScope ["heights", "wedge", "crease", "one", "other"] ["heights", "wedge", "crease"] (defScope sAmid) := ⟨rfl, rfl, rfl, by decide +kernel, rfl, by decide +kernel, by decide +kernel⟩
def spAmid (K : PySem.W.Frag) : Sp := fun vs H Q _ => ∃ (a : Addr) (hs : List Int) (w c : Nat), vs = [.ref a, .int (w : Nat), .int (c : Nat)] ∧ SqL K H a (hs.map V.int) ∧ w < hs.length ∧ c < hs.length ∧
  Q (.bl (bwb (hs.getD (pk c hs.length) 0) (hs.getD c 0) (hs.getD w 0))) H
section
variable {P : Program} {w : World} {K : PySem.W.Frag} {mg : Str → Option Value} {base : Heap} {f fA fR : Addr} {fd fdA fdR : FuncData}
theorem ok_amid (gb : Gb mg) (D : Df K mg "wedge_amid" sAmid ["heights", "wedge", "crease"] f fd) : FnOk P w K mg base CX0 1 f fd ["heights", "wedge", "crease"] (spAmid K) := by
  refine D.F.ok scAmid (fun vs H Q E h => ?_) (fun cdv A outer s H vs Q E hr h => ?_)
  · obtain ⟨a, ss, w, z, rfl, _⟩ := h
    rfl
  obtain ⟨a, ss, w, z, rfl, hS, hw, hz, q⟩ := h
  refine ⟨_, pss_cons (ps_set (i := 3) scAmid.nd rfl (.inl rfl) (pe_ix ix_list (pv 0) (pe_op op_sub (pv 2) pe_int) (fun _ _ => rfl)))
    (pss_cons (ps_set (i := 4) scAmid.nd rfl (.inl rfl) (pe_ix ix_list (pv 0) (pv 2) (fun _ _ => rfl)))
    (pss_one (ps_ret (pe_and (pe_cmpR op_lt (pe_callB (call_min2 rfl) (by rfl) gb.min (by decide +kernel) (pa_cons (pv 3) (pa_cons (pv 4) pa_nil))) (pe_ix ix_list (pv 0) (pv 1) (fun _ _ => rfl)) (nomark _))
      (pe_one (pe_cmpR op_lt (pe_ix ix_list (pv 0) (pv 1) (fun _ _ => rfl)) (pe_callB (call_max2 rfl) (by rfl) gb.max (by decide +kernel) (pa_cons (pv 3) (pa_cons (pv 4) pa_nil))) (nomark _))))))), ?_⟩
  refine ⟨_, rfl, _, rfl, _, _, rfl, rfl, a, _, _, _, rfl, rfl, hS, id_pk hz, ?_⟩
  refine ⟨_, rfl, _, rfl, a, _, _, _, rfl, rfl, hS, at_nat rfl (id_at hz), ?_⟩
  refine ⟨_, rfl, _, rfl, _, _, rfl, _, rfl, _, rfl, a, _, _, _, rfl, rfl, hS, at_nat rfl (id_at hw), _, _, rfl, rfl, _, rfl, ?_⟩
  refine ite2 (fun c => ?_) (fun c => ?_)
  · refine ⟨_, rfl, _, rfl, a, _, _, _, rfl, rfl, hS, at_nat rfl (id_at hw), _, rfl, _, rfl, _, _, rfl, _, _, rfl, rfl, ?_⟩
    rw [bw_yes c] at q
    exact q
  · rw [bw_no c] at q
    exact q
end
abbrev sBars : Stmt := top 12
theorem scBars : FnScope ["spots", "heights", "crease", "many", "wedge", "other"] ["spots", "heights", "crease"] (defScope sBars) := ⟨rfl, rfl, rfl, by decide +kernel, rfl, by decide +kernel, by decide +kernel⟩
def spBars (K : PySem.W.Frag) : Sp := fun vs H Q _ => ∃ (a b : Addr) (ss hs : List Int) (c : Nat), vs = [.ref a, .ref b, .int (c : Nat)] ∧ SqL K H a (ss.map V.int) ∧ SqL K H b (hs.map V.int) ∧ hs.length = ss.length ∧ c < ss.length ∧ Ev ss.length ∧ NB ss hs c ∧
  Q .non H
section
variable {P : Program} {w : World} {K : PySem.W.Frag} {mg : Str → Option Value} {base : Heap} {f fA fR : Addr} {fd fdA fdR : FuncData}
theorem ok_bars (gb : Gb mg) (D : Df K mg "wedge_bars" sBars ["spots", "heights", "crease"] f fd) (DA : Df K mg "wedge_amid" sAmid ["heights", "wedge", "crease"] fA fdA) (DR : Df K mg "wedge_reaches" sReaches ["spots", "wedge", "spot"] fR fdR) :
    FnOk P w K mg base CX0 2 f fd ["spots", "heights", "crease"] (spBars K) := by
  have GA : FnOk P w K mg base CX0 1 fA fdA _ (spAmid K) := ok_amid gb DA
  have GR : FnOk P w K mg base CX0 1 fR fdR _ (spReaches K) := ok_reaches gb DR
  refine D.F.ok scBars (fun vs H Q E h => ?_) (fun cdv A outer s H vs Q E hr h => ?_)
  · obtain ⟨a, b, ss, hs, c, rfl, _⟩ := h
    rfl
  obtain ⟨a, b, ss, hs, c, rfl, hS, hH, hl, hc, he, nb, q⟩ := h
  refine ⟨_, pss_cons (ps_set (i := 3) scBars.nd rfl (.inl rfl) (pe_callB call_len_seq (by rfl) gb.len PySem.boot_len (pa_cons (pv 0) pa_nil)))
    (pss_cons (ps_for PassesOwn.never rfl (pi_range1 (by rfl) gb.range (pa_cons (pv 3) pa_nil)) (pg_name (i := 4) scBars.nd rfl (.inl rfl))
      (pss_one (ps_if (PW.pt (pw_and (pt_val (pe_call GA hr (by rfl) DA.g DA.F.kp DA.b .nil pass0 (pa_cons (pv 1) (pa_cons (pv 4) (pa_cons (pv 2) pa_nil)))))
          (pw_and1 (pt_val (pe_call GR hr (by rfl) DR.g DR.F.kp DR.b .nil pass0 (pa_cons (pv 0) (pa_cons (pv 4) (pa_cons (pe_ix ix_list (pv 0) (pv 2) (fun _ _ => rfl)) pa_nil))))))))
        (pss_one ps_never) pss_nil)))
    (pss_cons (ps_for PassesOwn.never rfl (pi_range3 (by rfl) gb.range (pa_cons (pe_op op_mod (pv 2) pe_int) (pa_cons (pv 3) (pa_cons pe_int pa_nil)))) (pg_name (i := 5) scBars.nd rfl (.inl rfl))
      (pss_one (ps_if (PW.pt (pw_and (pt_cmpR op_ne (pv 5) (pv 2) (nomark _)) (pw_and1 (pt_cmpR op_eq (pe_ix ix_list (pv 0) (pv 5) (fun _ _ => rfl)) (pe_ix ix_list (pv 0) (pv 2) (fun _ _ => rfl)) (nomark _)))))
        (pss_one (ps_if (pt_cmpR op_ne (pe_call GA hr (by rfl) DA.g DA.F.kp DA.b .nil pass0 (pa_cons (pv 1) (pa_cons (pe_op op_mod (pe_op op_sub (pv 5) pe_int) (pv 3)) (pa_cons (pv 2) pa_nil))))
            (pe_call GA hr (by rfl) DA.g DA.F.kp DA.b .nil pass0 (pa_cons (pv 1) (pa_cons (pv 5) (pa_cons (pv 2) pa_nil)))) (nomark _))
          (pss_one ps_never) pss_nil)) pss_nil)))
    (pss_one (ps_ret pe_non)))), ?_⟩
  have hl1 := id_len ss
  have hv := he.le
  refine ⟨_, rfl, a, _, rfl, .inl hS, ?_⟩
  refine ⟨_, rfl, _, rfl, by omega, by omega, for_range (Pv := fun i σ H' => H' = H ∧ ∃ y4 y5, σ = [some (.ref a), some (.ref b), some (.int (c : Nat)), some (.int ((ss.map V.int).length : Nat)), y4, y5]) ⟨rfl, none, none, rfl⟩ (fun i σ H' hi hP => ?_) (fun σ H' hP => ?_)⟩
  · obtain ⟨rfl, y4, y5, rfl⟩ := hP
    have hi' : i < ss.length := by omega
    have ei : (0 : Int) + (i : Int) = (i : Int) := by omega
    rw [ei]
    refine ⟨_, rfl, _, rfl, _, rfl, b, hs, i, c, rfl, hH, by omega, by omega, _, rfl, ?_⟩
    refine ite2 (fun c1 => ?_) (fun c1 => ?_)
    · refine ⟨_, rfl, _, rfl, _, rfl, _, rfl, a, _, _, _, rfl, rfl, hS, at_nat rfl (id_at hc), a, ss, i, _, rfl, hS, hi', _, rfl, ?_⟩
      refine ite2 (fun c2 => ?_) (fun _ => ?_)
      · rw [hl] at c1
        exact (nb.1 i hi' ⟨c1, c2⟩).elim
      · exact ⟨rfl, _, _, rfl⟩
    · refine iteF ?_
      exact ⟨rfl, _, _, rfl⟩
  · obtain ⟨rfl, y4, y5, rfl⟩ := hP
    refine ⟨_, rfl, _, _, rfl, rfl, (by show (0 : Int) < 2; decide), _, rfl, _, _, _, _, rfl, (by rw [hl1]; exact rg2 he), for_rangeC (Pv := fun i σ H'' => H'' = H' ∧ ∃ y4 y5, σ = [some (.ref a), some (.ref b), some (.int (c : Nat)), some (.int ((ss.map V.int).length : Nat)), y4, y5]) ⟨rfl, _, _, rfl⟩ (fun i σ H'' hi hP => ?_) (fun σ H'' hP => ?_)⟩
    · obtain ⟨rfl, y4', y5', rfl⟩ := hP
      have em : (c : Int) % 2 + (i : Nat) * 2 = ((c % 2 + i * 2 : Nat) : Int) := by omega
      have hm : c % 2 + i * 2 < ss.length := by omega
      have hp : (c % 2 + i * 2) % 2 = c % 2 := by omega
      rw [em]
      generalize hmm : c % 2 + i * 2 = m at hm hp
      refine ⟨_, rfl, _, rfl, rfl, _, rfl, ?_⟩
      refine ite2 (fun c1 => ?_) (fun c1 => ?_)
      · refine ⟨_, rfl, _, rfl, a, _, _, _, rfl, rfl, hS, at_nat rfl (id_at hm), _, rfl, _, rfl, a, _, _, _, rfl, rfl, hS, at_nat rfl (id_at hc), rfl, _, rfl, ?_⟩
        refine ite2 (fun c2 => ?_) (fun c2 => ?_)
        · have e2 : ss.getD m 0 = ss.getD c 0 := V.int.inj (of_decide_eq_true c2)
          have e3 := nb.2 m hm hp e2
          have hpk := pk_lt hm
          refine ⟨_, rfl, _, rfl, _, _, rfl, rfl, _, rfl, _, _, rfl, rfl, (by rw [hl1]; omega), _, rfl, b, hs, pk m ss.length, c, (by rw [hl1]; show [V.ref b, V.int ((((m : Nat) : Int) - 1) % (ss.length : Nat)), V.int (c : Nat)] = _; rw [pk_int hm]), hH, by omega, by omega, ?_⟩
          refine ⟨_, rfl, _, rfl, _, rfl, b, hs, m, c, rfl, hH, by omega, by omega, rfl, _, rfl, ?_⟩
          rw [hl, e3]
          refine iteNS rfl ?_
          exact ⟨rfl, _, _, rfl⟩
        · exact ⟨rfl, _, _, rfl⟩
      · refine iteF ?_
        exact ⟨rfl, _, _, rfl⟩
    · obtain ⟨rfl, y4', y5', rfl⟩ := hP
      exact q
end
end CC

/-! ## D2 -/
namespace CC
open PySem L2
abbrev sGood : Stmt := top 7
theorem scGood : FnScope ["gaps", "gap", "k"] ["gaps"] (defScope sGood) := ⟨rfl, rfl, rfl, by decide +kernel, rfl, by decide +kernel, by decide +kernel⟩
def spGood (K : PySem.W.Frag) : Sp := fun vs H Q _ => ∃ (a : Addr) (ns : List Int), vs = [.ref a] ∧ SqL K H a (ns.map V.int) ∧ Good ns ∧ ∀ H', Same H H' → Q (.bl true) H'
theorem small_no {ns : List Int} (h : ∀ x ∈ ns, 1 ≤ x) : (ns.map fun x => decide (x < 1)).any id = false := by
  rw [List.any_eq_false]
  intro b hb
  obtain ⟨x, hx, rfl⟩ := List.mem_map.mp hb
  have := h x hx
  simp
  omega
section
variable {P : Program} {w : World} {K : PySem.W.Frag} {mg : Str → Option Value} {base : Heap} {f fG : Addr} {fd fdG : FuncData}
theorem ok_good {t : Tok} (gb : Gb mg) (gM : mg "MOST_WEDGES" = some (.int 8 t)) (D : Df K mg "is_good" sGood ["gaps"] f fd) : FnOk P w K mg base CX0 1 f fd ["gaps"] (spGood K) := by
  refine D.F.ok scGood (fun vs H Q E h => ?_) (fun cdv A outer s H vs Q E hr h => ?_)
  · obtain ⟨a, ns, rfl, _⟩ := h
    rfl
  obtain ⟨a, ns, rfl, hS, g, q⟩ := h
  refine ⟨_, pss_cons (ps_if (PW.pt (pw_or (pt_cmpR op_eq (pe_op op_mod (pe_callB call_len_seq (by rfl) gb.len PySem.boot_len (pa_cons (pv 0) pa_nil)) pe_int) pe_int (nomark _))
      (pw_or (pt_cmpR op_gt (pe_callB call_len_seq (by rfl) gb.len PySem.boot_len (pa_cons (pv 0) pa_nil)) (pe_glob (v := .int 8) (by rfl) gM ⟨_, rfl⟩) (nomark _))
      (pw_or1 (pt_val (pe_callB (cr_any rfl) (by rfl) gb.any (by decide +kernel) (pa_cons
        (pe_lc (own := [("gap", 1)]) (g := gName 1) (tt := tYes) rfl scGood.nd (pi_list (pv 0)) (blkOk_by (N := ["gaps", "gap", "k"]) (sc := defScope sGood) (by decide +kernel))
          (fun _ _ _ _ _ => pg_name (i := 1) scGood.nd rfl (Or.inl rfl)) (fun _ _ _ _ _ => pts_nil) (fun _ _ _ _ _ => pe_cmpR op_lt (pv 1) pe_int (nomark _))) pa_nil)))))))
      (pss_one (ps_ret pe_bl)) pss_nil)
    (pss_one (ps_ret (pe_cmpR op_eq (pe_op op_mul (pe_callB (cr_sum rfl) (by rfl) gb.sum (by decide +kernel) (pa_cons
        (pe_lc (own := [("k", 2), ("gap", 1)]) (g := gTup K 2 (gCons (gName 2) (gCons (gName 1) gNil))) rfl scGood.nd (pi_enum (by rfl) gb.enumerate (pa_cons (pv 0) pa_nil)) (blkOk_by (N := ["gaps", "gap", "k"]) (sc := defScope sGood) (by decide +kernel))
          (fun _ _ _ _ _ => pg_tup rfl (pgs_cons (pg_name (i := 2) scGood.nd rfl (Or.inl rfl) (Or.inr rfl)) (pgs_cons (pg_name (i := 1) scGood.nd rfl (Or.inl rfl) (Or.inr rfl)) pgs_nil)))
          (fun _ _ _ _ _ => pts_one (pt_cmpR op_eq (pe_op op_mod (pv 2) pe_int) pe_int (nomark _))) (fun _ _ _ _ _ => pv 1)) pa_nil)) pe_int)
      (pe_callB (cr_sum rfl) (by rfl) gb.sum (by decide +kernel) (pa_cons (pv 0) pa_nil)) (nomark _)))), ?_⟩
  have hl := id_len ns
  have v := g.ev.le
  refine ⟨_, rfl, a, _, rfl, .inl hS, _, _, rfl, rfl, (by show (0 : Int) < 2; decide), rfl, _, rfl, ?_⟩
  refine ite2 (fun c => ?_) (fun _ => ?_)
  · exfalso
    have e := V.int.inj (of_decide_eq_true c)
    rw [hl] at e
    omega
  refine ⟨_, rfl, a, _, rfl, .inl hS, _, _, rfl, rfl, _, rfl, ?_⟩
  refine ite2 (fun c => ?_) (fun _ => ?_)
  · exfalso
    have e := of_decide_eq_true c
    rw [hl] at e
    omega
  refine ⟨_, rfl, a, rfl, ⟨_, hS⟩, fun p hp => lc_list (xs := ns.map V.int) (fun i H' => Same H H' ∧ H' p = some (.lst (((ns.take i).map fun x => decide (x < 1)).map V.bl))) ⟨same_new hp _, upd_same⟩ (fun i H' _ hP => hP.1.seq hS) (fun i x H' hx hP => ?_) (fun H' hP => ?_)⟩
  · obtain ⟨z, hz, rfl⟩ := iv_of hx
    obtain ⟨sm, ep⟩ := hP
    have hi := at_lt hz
    refine ⟨rfl, _, rfl, _, _, rfl, rfl, _, ep, ?_, s_up sm hp _, ?_⟩
    · rw [List.length_map, List.length_map, List.length_take]
      exact small1000 (by omega)
    · rw [upd_same, take_one hz, List.map_append, List.map_append]
      rfl
  · obtain ⟨sm, ep⟩ := hP
    rw [hl, List.take_length] at ep
    refine ⟨p, _, rfl, SqL.of ep, _, rfl, ?_⟩
    rw [small_no g.pos]
    refine iteF ?_
    -- the sum
    refine ⟨_, rfl, a, _, rfl, sm.seq hS, fun p2 hp2 => lc_it (walk_enum (xs := ns.map V.int)) (fun i H2 => Same H' H2 ∧ H2 p2 = some (.lst ((evS ns i).map V.int))) ⟨same_new hp2 _, upd_same⟩ (fun i H2 _ hP => hP.1.seq (sm.seq hS)) (fun i x H2 H3 hi hP hy => ?_) (fun H2 hP => ?_)⟩
    · obtain ⟨sm2, ep2⟩ := hP
      obtain ⟨T, x1, x2, rfl, nT, rfl, e1, e2⟩ := hy
      obtain ⟨z, hz, rfl⟩ := iv_of e2
      have e1' : x1 = V.int (i : Nat) := (Option.some.inj e1).symm
      subst e1'
      have np : p2 ≠ T := ne_of_none ep2 nT
      have ep3 : (upd H2 T (.tup [V.int (i : Nat), V.int z])) p2 = some (.lst ((evS ns i).map V.int)) := by
        rw [upd_ne np]
        exact ep2
      refine ⟨T, _, rfl, SqT.of upd_same, rfl, _, _, rfl, _, _, rfl, rfl, rfl, _, rfl, _, _, rfl, rfl, (by show (0 : Int) < 2; decide), rfl, _, rfl, ?_⟩
      have hs : evS ns (i + 1) = evS ns i ++ if i % 2 = 0 then [z] else [] := by rw [evS_step, getD_of hz]
      refine ite2 (fun c => ?_) (fun c => ?_)
      · have e := V.int.inj (of_decide_eq_true c)
        refine ⟨_, rfl, _, ep3, ?_, s_up (s_nw sm2 nT _) hp2 _, ?_⟩
        · rw [List.length_map]
          unfold evS
          rw [List.length_map]
          exact Nat.lt_of_le_of_lt (List.length_filter_le _ _) (by rw [List.length_range]; exact small1000 (by omega))
        · rw [upd_same, hs, if_pos (by omega), List.map_append]
          rfl
      · have e : ¬ ((i : Nat) : Int) % 2 = 0 := fun z => c (decide_eq_true (congrArg V.int z))
        refine ⟨s_nw sm2 nT _, ?_⟩
        rw [hs, if_neg (by omega), List.append_nil]
        exact ep3
    · obtain ⟨sm2, ep2⟩ := hP
      rw [hl] at ep2
      refine ⟨p2, _, rfl, SqL.of ep2, _, _, rfl, rfl, .inr (by decide), _, rfl, a, ns, rfl, sm2.seq (sm.seq hS), rfl, ?_⟩
      rw [decide_eq_true (congrArg V.int g.half)]
      exact q _ (sm.trans sm2)
end
end CC

/-! ## D3 -/
namespace CC
open PySem L2
abbrev sSpots : Stmt := top 8
theorem scSpots : FnScope ["gaps", "spot", "found", "k", "gap"] ["gaps"] (defScope sSpots) := ⟨rfl, rfl, rfl, by decide +kernel, rfl, by decide +kernel, by decide +kernel⟩
def spSpots (K : PySem.W.Frag) : Sp := fun vs H Q _ => ∃ (a : Addr) (ns : List Int), vs = [.ref a] ∧ SqL K H a (ns.map V.int) ∧ Good ns ∧
  ∀ H' p, Same H H' → H p = none → H' p = some (.lst ((spl ns).map V.int)) → Q (.ref p) H'
section
variable {P : Program} {w : World} {K : PySem.W.Frag} {mg : Str → Option Value} {base : Heap} {f fG : Addr} {fd fdG : FuncData}
theorem ok_spots {t : Tok} (gb : Gb mg) (gM : mg "MOST_WEDGES" = some (.int 8 t)) (D : Df K mg "spots_of" sSpots ["gaps"] f fd) (DG : Df K mg "is_good" sGood ["gaps"] fG fdG) : FnOk P w K mg base CX0 2 f fd ["gaps"] (spSpots K) := by
  have GG : FnOk P w K mg base CX0 1 fG fdG _ (spGood K) := ok_good gb gM DG
  refine D.F.ok scSpots (fun vs H Q E h => ?_) (fun cdv A outer s H vs Q E hr h => ?_)
  · obtain ⟨a, ns, rfl, _⟩ := h
    rfl
  obtain ⟨a, ns, rfl, hS, g, q⟩ := h
  refine ⟨_, pss_cons (ps_if (PW.pt (pw_or (pt_cmpR (op_eqD hr.units) (pv 0) (pe_lst pa_nil) (nomark _)) (pw_or1 (pt_not (pt_val (pe_call GG hr (by rfl) DG.g DG.F.kp DG.b .nil pass0 (pa_cons (pv 0) pa_nil)))))))
      (pss_one ps_never) pss_nil)
    (pss_cons (ps_set (i := 1) scSpots.nd rfl (.inl rfl) pe_int)
    (pss_cons (ps_set (i := 2) scSpots.nd rfl (.inl rfl) (pe_lst pa_nil))
    (pss_cons (ps_for PassesOwn.never rfl (pi_enum (by rfl) gb.enumerate (pa_cons (pv 0) pa_nil)) (pg_tup rfl (pgs_cons (pg_name (i := 3) scSpots.nd rfl (.inl rfl)) (pgs_cons (pg_name (i := 4) scSpots.nd rfl (.inl rfl)) pgs_nil)))
      (pss_cons (ps_expr (pe_bm PySem.F.plainAttrs_list PySem.F.slot_list_append PySem.F.type_list_append mt_append (pv 2) (pa_cons (pv 1) pa_nil)))
      (pss_one (ps_if (pt_cmpR op_eq (pe_op op_mod (pv 3) pe_int) pe_int (nomark _)) (pss_one (ps_aug (i := 1) scSpots.nd rfl (.inl rfl) (pv 4) ip_add)) (pss_one (ps_aug (i := 1) scSpots.nd rfl (.inl rfl) (pv 4) ip_sub))))))
    (pss_one (ps_ret (pv 2)))))), ?_⟩
  have hl := id_len ns
  have v := g.ev.le
  refine ⟨_, rfl, (by show 0 ≤ sizeLine; decide), fun p0 h0 => ?_⟩
  have s0 := same_new h0 (.lst [])
  refine ⟨dI ns, dI [], dI_ok (s0.seq hS), dI_ok (SqL.of upd_same), dI_shape _, dI_shape _, _, rfl, ?_⟩
  rw [dI_nil (by omega)]
  refine iteF ?_
  refine ⟨_, rfl, a, ns, rfl, s0.seq hS, g, fun H1 s1 => ?_⟩
  refine ⟨_, rfl, ?_⟩
  refine iteF ?_
  have s2 := s0.trans s1
  refine ⟨(by show 0 ≤ sizeLine; decide), fun p hp => ?_⟩
  refine ⟨_, rfl, a, _, rfl, (s_nw s2 hp _).seq hS, for_it (walk_enum (xs := ns.map V.int)) (fun i σ H' => ∃ y3 y4, σ = [some (.ref a), some (.int (sp ns i)), some (.ref p), y3, y4] ∧ Same H H' ∧ H' p = some (.lst (((List.range i).map (sp ns)).map V.int)))
    ⟨none, none, rfl, s_nw s2 hp _, upd_same⟩ (fun i σ H' _ hP => ?_) (fun i x σ H2 H3 hi hP hy => ?_) (fun σ H' hP => ?_)⟩
  · obtain ⟨y3, y4, _, sm, _⟩ := hP
    exact sm.seq hS
  · obtain ⟨y3, y4, rfl, sm, ep⟩ := hP
    obtain ⟨T, x1, x2, rfl, nT, rfl, e1, e2⟩ := hy
    obtain ⟨z, hz, rfl⟩ := iv_of e2
    have e1' : x1 = V.int (i : Nat) := (Option.some.inj e1).symm
    subst e1'
    have ep3 : (upd H2 T (.tup [V.int (i : Nat), V.int z])) p = some (.lst (((List.range i).map (sp ns)).map V.int)) := by
      rw [upd_ne (ne_of_none ep nT)]
      exact ep
    have hp0 : H p = none := s2.free hp
    have hi' : i < ns.length := by omega
    have hz' := getD_of (d := 0) hz
    refine ⟨T, _, rfl, SqT.of upd_same, rfl, _, _, rfl, _, _, rfl, rfl, ?_⟩
    refine ⟨_, rfl, .inl ⟨rfl, _, SqL.of ep3⟩, _, rfl, p, _, _, rfl, rfl, ep3, ?_, ?_⟩
    · rw [List.length_map, List.length_map, List.length_range]
      exact small1000 (by omega)
    have e4 : (upd (upd H2 T (.tup [V.int (i : Nat), V.int z])) p (.lst (((List.range i).map (sp ns)).map V.int ++ [V.int (sp ns i)]))) p = some (.lst (((List.range (i + 1)).map (sp ns)).map V.int)) := by
      rw [upd_same, List.range_succ, List.map_append, List.map_append]
      rfl
    refine ⟨_, rfl, _, _, rfl, rfl, (by show (0 : Int) < 2; decide), rfl, _, rfl, ?_⟩
    refine ite2 (fun c => ?_) (fun c => ?_)
    · have e := V.int.inj (of_decide_eq_true c)
      have hsp : sp ns (i + 1) = sp ns i + z := by rw [sp_step ns i hi', if_pos (by omega), hz']
      refine ⟨_, rfl, _, rfl, _, _, rfl, rfl, some (.int (i : Nat)), some (.int z), ?_, s_up (s_nw sm nT _) hp0 _, e4⟩
      rw [hsp]
      rfl
    · have e : ¬ ((i : Nat) : Int) % 2 = 0 := fun z => c (decide_eq_true (congrArg V.int z))
      have hsp : sp ns (i + 1) = sp ns i - z := by rw [sp_step ns i hi', if_neg (by omega), hz']
      refine ⟨_, rfl, _, rfl, _, _, rfl, rfl, some (.int (i : Nat)), some (.int z), ?_, s_up (s_nw sm nT _) hp0 _, e4⟩
      rw [hsp]
      rfl
  · obtain ⟨y3, y4, rfl, sm, ep⟩ := hP
    rw [hl] at ep
    exact ⟨_, rfl, q _ p sm (s2.free hp) ep⟩
end
abbrev sHeights : Stmt := top 9
theorem scHeights : FnScope ["gaps", "order", "found", "height", "wedge"] ["gaps", "order"] (defScope sHeights) := ⟨rfl, rfl, rfl, by decide +kernel, rfl, by decide +kernel, by decide +kernel⟩
def spHeights (K : PySem.W.Frag) : Sp := fun vs H Q _ => ∃ (a b : Addr) (ns : List Int) (o : List Nat), vs = [.ref a, .ref b] ∧ SqL K H a (ns.map V.int) ∧ SqL K H b ((oi o).map V.int) ∧ ns.length ≤ 8 ∧ o.Perm (List.range ns.length) ∧
  ∀ H' p, Same H H' → H p = none → H' p = some (.lst ((hl ns.length o).map V.int)) → Q (.ref p) H'
/-- heights so far -/
structure Hts (n : Nat) (o : List Nat) (i : Nat) (fs : List Int) : Prop where
  len : fs.length = n
  val : ∀ j w, j < i → o[j]? = some w → fs[w]? = some (j : Int)
theorem Hts.next {n : Nat} {o : List Nat} {i w : Nat} {fs : List Int} (hp : o.Perm (List.range n)) (h : Hts n o i fs) (hw : o[i]? = some w) : w < fs.length ∧ Hts n o (i + 1) (fs.set w (i : Int)) := by
  have wl : w < fs.length := by
    rw [h.len]
    exact (perm_mem hp).mp (List.mem_of_getElem? hw)
  refine ⟨wl, by rw [List.length_set]; exact h.len, fun j x hj hx => ?_⟩
  by_cases c : j = i
  · subst c
    rw [hw] at hx
    cases hx
    rw [List.getElem?_set_self wl]
  · have hne : w ≠ x := fun z => by
      subst z
      exact c (nd_ix (perm_nd hp) hx hw)
    rw [List.getElem?_set_ne hne]
    exact h.val j x (by omega) hx
theorem Hts.all {n : Nat} {o : List Nat} {fs : List Int} (hp : o.Perm (List.range n)) (h : Hts n o n fs) : fs = hl n o := by
  apply List.ext_getElem?
  intro w
  by_cases c : w < n
  · obtain ⟨i, hi, e1, e2⟩ := at_hgt ((perm_mem hp).mpr c)
    rw [h.val i w (by rw [perm_len hp] at hi; exact hi) e1]
    unfold hl
    rw [List.getElem?_map, List.getElem?_range c]
    show _ = some (hgt o w)
    rw [e2]
  · rw [List.getElem?_eq_none (by rw [h.len]; omega), List.getElem?_eq_none (by rw [hl_len]; omega)]
section
variable {P : Program} {w : World} {K : PySem.W.Frag} {mg : Str → Option Value} {base : Heap} {f : Addr} {fd : FuncData}
theorem ok_heights (gb : Gb mg) (D : Df K mg "wedge_heights" sHeights ["gaps", "order"] f fd) : FnOk P w K mg base CX0 1 f fd ["gaps", "order"] (spHeights K) := by
  refine D.F.ok scHeights (fun vs H Q E h => ?_) (fun cdv A outer s H vs Q E hr h => ?_)
  · obtain ⟨a, b, ns, o, rfl, _⟩ := h
    rfl
  obtain ⟨a, b, ns, o, rfl, hS, hO, h8, hp, q⟩ := h
  refine ⟨_, pss_cons (ps_if (pt_cmpR (op_neD hr.units) (pe_callB cr_sorted (by rfl) gb.sorted (by decide +kernel) (pa_cons (pv 1) pa_nil))
        (pe_listRg rfl (by rfl) gb.list (prg_1 (by rfl) gb.range (pe_callB call_len_seq (by rfl) gb.len PySem.boot_len (pa_cons (pv 0) pa_nil)))) (nomark _)) (pss_one ps_never) pss_nil)
    (pss_cons (ps_set (i := 2) scHeights.nd rfl (.inl rfl) (pe_op op_rep (pe_lst (pa_cons pe_int pa_nil)) (pe_callB call_len_seq (by rfl) gb.len PySem.boot_len (pa_cons (pv 1) pa_nil))))
    (pss_cons (ps_for PassesOwn.never rfl (pi_enum (by rfl) gb.enumerate (pa_cons (pv 1) pa_nil)) (pg_tup rfl (pgs_cons (pg_name (i := 3) scHeights.nd rfl (.inl rfl)) (pgs_cons (pg_name (i := 4) scHeights.nd rfl (.inl rfl)) pgs_nil)))
      (pss_one (ps_asg (pv 3) (pg_sub (pv 2) (pv 4) set_list))))
    (pss_one (ps_ret (pv 2))))), ?_⟩
  have hl1 := id_len ns
  have ol := perm_len hp
  have hl2 : ((oi o).map V.int).length = ns.length := by rw [id_len, oi_len, ol]
  refine ⟨_, rfl, b, oi o, rfl, hO, by rw [oi_len, ol]; omega, fun ys p1 hy1 hy2 n1 => ?_⟩
  have ey := sort_range hp hy1 hy2
  subst ey
  have s1 := same_new n1 (.lst ((oi (List.range ns.length)).map V.int))
  refine ⟨_, rfl, a, _, rfl, .inl (s1.seq hS), _, rfl, ⟨by omega, by omega, by omega, by omega, by omega⟩, fun p2 n2 => ?_⟩
  rw [hl1, rg_oi]
  have s2 := s_nw s1 n2 (.lst ((oi (List.range ns.length)).map V.int))
  refine ⟨dI (oi (List.range ns.length)), dI (oi (List.range ns.length)), dI_ok (SqL.of (by rw [upd_ne (ne_of_none upd_same n2)]; exact upd_same)), dI_ok (SqL.of upd_same), dI_shape _, dI_shape _, _, rfl, ?_⟩
  rw [dI_same]
  refine iteF ?_
  refine ⟨(by show 1 ≤ sizeLine; decide), fun p3 n3 => ?_⟩
  have s3 := s_nw s2 n3 (.lst [V.int 0])
  refine ⟨_, rfl, b, _, rfl, .inl (s3.seq hO), p3, _, _, rfl, rfl, upd_same, by omega, by omega, ?_, fun p n4 => ?_⟩
  · rw [hl2]
    show 1 * (ns.length : Int).toNat ≤ sizeLine
    exact line_ge (by omega)
  have e5 : (((oi o).map V.int).length : Int).toNat = ns.length := by
    rw [hl2]
    rfl
  rw [e5, rep_zero]
  have hp0 : H p = none := s3.free n4
  refine ⟨_, rfl, b, _, rfl, (s_nw s3 n4 _).seq hO, for_it (walk_enum (xs := (oi o).map V.int)) (fun i σ H' => ∃ y3 y4 fs, σ = [some (.ref a), some (.ref b), some (.ref p), y3, y4] ∧ Same H H' ∧ H' p = some (.lst (fs.map V.int)) ∧ Hts ns.length o i fs)
    ⟨none, none, _, rfl, s_nw s3 n4 _, upd_same, List.length_replicate, fun j w hj _ => by omega⟩ (fun i σ H' _ hP => ?_) (fun i x σ H2 H3 hi hP hy => ?_) (fun σ H' hP => ?_)⟩
  · obtain ⟨y3, y4, fs, _, sm, _⟩ := hP
    exact sm.seq hO
  · obtain ⟨y3, y4, fs, rfl, sm, ep, ht⟩ := hP
    obtain ⟨T, x1, x2, rfl, nT, rfl, e1, e2⟩ := hy
    obtain ⟨z, hz, rfl⟩ := iv_of e2
    obtain ⟨u, hu, rfl⟩ := oi_of hz
    have e1' : x1 = V.int (i : Nat) := (Option.some.inj e1).symm
    subst e1'
    have ep3 : (upd H2 T (.tup [V.int (i : Nat), V.int (u : Nat)])) p = some (.lst (fs.map V.int)) := by
      rw [upd_ne (ne_of_none ep nT)]
      exact ep
    obtain ⟨wl, ht'⟩ := ht.next hp hu
    refine ⟨T, _, rfl, SqT.of upd_same, rfl, _, _, rfl, _, _, rfl, rfl, ?_⟩
    refine ⟨_, rfl, _, rfl, _, rfl, p, _, _, u, rfl, rfl, ep3, ix_nat (by rw [id_len]; exact wl), _, _, fs.set u (i : Int), rfl, s_up (s_nw sm nT _) hp0 _, ?_, ht'⟩
    rw [upd_same, List.map_set]
  · obtain ⟨y3, y4, fs, rfl, sm, ep, ht⟩ := hP
    rw [hl2] at ht
    rw [ht.all hp] at ep
    exact ⟨_, rfl, q _ p sm hp0 ep⟩
end
end CC

/-! ## D4 -/
namespace CC
open PySem L2
/-! ### shut_at, marks_of -/
abbrev sShut : Stmt := top 13
theorem scShut : FnScope ["gaps", "order", "spots", "heights", "crease", "bar"] ["gaps", "order"] (defScope sShut) := ⟨rfl, rfl, rfl, by decide +kernel, rfl, by decide +kernel, by decide +kernel⟩
def spShut (K : PySem.W.Frag) : Sp := fun vs H Q _ => ∃ (a b : Addr) (ns : List Int) (o : List Nat), vs = [.ref a, .ref b] ∧ SqL K H a (ns.map V.int) ∧ SqL K H b ((oi o).map V.int) ∧ Good ns ∧ o.Perm (List.range ns.length) ∧
  (∀ c, c < ns.length → NBf ns.length (sp ns) (hgt o) c) ∧ ∀ H', Same H H' → Q .non H'
/-- the defs that both call -/
structure Wd (K : PySem.W.Frag) (mg : Str → Option Value) (fG fS fH fR fA fB : Addr) (dG dS dH dR dA dB : FuncData) (t : Tok) : Prop where
  gb : Gb mg
  gM : mg "MOST_WEDGES" = some (.int 8 t)
  G : Df K mg "is_good" sGood ["gaps"] fG dG
  S : Df K mg "spots_of" sSpots ["gaps"] fS dS
  H : Df K mg "wedge_heights" sHeights ["gaps", "order"] fH dH
  R : Df K mg "wedge_reaches" sReaches ["spots", "wedge", "spot"] fR dR
  A : Df K mg "wedge_amid" sAmid ["heights", "wedge", "crease"] fA dA
  B : Df K mg "wedge_bars" sBars ["spots", "heights", "crease"] fB dB
section
variable {P : Program} {w : World} {K : PySem.W.Frag} {mg : Str → Option Value} {base : Heap} {f fG fS fH fR fA fB : Addr} {fd dG dS dH dR dA dB : FuncData} {t : Tok}
theorem ok_shut (W : Wd K mg fG fS fH fR fA fB dG dS dH dR dA dB t) (D : Df K mg "shut_at" sShut ["gaps", "order"] f fd) : FnOk P w K mg base CX0 3 f fd ["gaps", "order"] (spShut K) := by
  have GS : FnOk P w K mg base CX0 2 fS dS _ (spSpots K) := ok_spots W.gb W.gM W.S W.G
  have GH : FnOk P w K mg base CX0 1 fH dH _ (spHeights K) := ok_heights W.gb W.H
  have GB : FnOk P w K mg base CX0 2 fB dB _ (spBars K) := ok_bars W.gb W.B W.A W.R
  refine D.F.ok scShut (fun vs H Q E h => ?_) (fun cdv A outer s H vs Q E hr h => ?_)
  · obtain ⟨a, b, ns, o, rfl, _⟩ := h
    rfl
  obtain ⟨a, b, ns, o, rfl, hS, hO, g, hp, nb, q⟩ := h
  have hr1 := hr.mono (show 1 ≤ 2 by decide)
  refine ⟨_, pss_cons (ps_set (i := 2) scShut.nd rfl (.inl rfl) (pe_call GS hr (by rfl) W.S.g W.S.F.kp W.S.b .nil pass0 (pa_cons (pv 0) pa_nil)))
    (pss_cons (ps_set (i := 3) scShut.nd rfl (.inl rfl) (pe_call GH hr1 (by rfl) W.H.g W.H.F.kp W.H.b .nil pass0 (pa_cons (pv 0) (pa_cons (pv 1) pa_nil))))
    (pss_cons (ps_for PassesOwn.never rfl (pi_range1 (by rfl) W.gb.range (pa_cons (pe_callB call_len_seq (by rfl) W.gb.len PySem.boot_len (pa_cons (pv 0) pa_nil)) pa_nil)) (pg_name (i := 4) scShut.nd rfl (.inl rfl))
      (pss_cons (ps_set (i := 5) scShut.nd rfl (.inl rfl) (pe_call GB hr (by rfl) W.B.g W.B.F.kp W.B.b .nil pass0 (pa_cons (pv 2) (pa_cons (pv 3) (pa_cons (pv 4) pa_nil)))))
      (pss_one (ps_if (pt_cmpR op_notN (pv 5) pe_non (nomark _)) (pss_one ps_never) pss_nil))))
    (pss_one (ps_ret pe_non)))), ?_⟩
  have hl1 := id_len ns
  have v := g.ev.le
  refine ⟨_, rfl, a, ns, rfl, hS, g, fun H1 p s1 np ep => ?_⟩
  refine ⟨_, rfl, _, rfl, a, b, ns, o, rfl, s1.seq hS, s1.seq hO, v.2.1, hp, fun H2 p2 s2 np2 ep2 => ?_⟩
  have hS2 := (s1.trans s2).seq hS
  have es : H2 p = some (.lst ((spl ns).map V.int)) := s2 _ _ ep
  refine ⟨_, rfl, a, _, rfl, .inl hS2, _, rfl, by omega, by omega, for_range (Pv := fun i σ H' => H' = H2 ∧ ∃ y4 y5, σ = [some (.ref a), some (.ref b), some (.ref p), some (.ref p2), y4, y5]) ⟨rfl, none, none, rfl⟩ (fun i σ H' hi hP => ?_) (fun σ H' hP => ?_)⟩
  · obtain ⟨rfl, y4, y5, rfl⟩ := hP
    have hi' : i < ns.length := by omega
    have ei : (0 : Int) + (i : Int) = (i : Int) := by omega
    rw [ei]
    refine ⟨_, rfl, _, rfl, _, rfl, p, p2, spl ns, hl ns.length o, i, rfl, SqL.of es, SqL.of ep2, by rw [hl_len, spl_len], by rw [spl_len]; exact hi', by rw [spl_len]; exact g.ev, nb_list hi' (nb i hi'), ?_⟩
    refine ⟨_, rfl, rfl, _, rfl, ?_⟩
    refine iteNS rfl ?_
    exact ⟨rfl, _, _, rfl⟩
  · obtain ⟨rfl, y4, y5, rfl⟩ := hP
    exact q _ (s1.trans s2)
end
abbrev sMarks : Stmt := top 14
theorem scMarks : FnScope ["gaps", "order", "spots", "heights", "found", "crease", "turned", "plain"] ["gaps", "order"] (defScope sMarks) := ⟨rfl, rfl, rfl, by decide +kernel, rfl, by decide +kernel, by decide +kernel⟩
def spMarks (K : PySem.W.Frag) : Sp := fun vs H Q _ => ∃ (a b : Addr) (ns : List Int) (o : List Nat), vs = [.ref a, .ref b] ∧ SqL K H a (ns.map V.int) ∧ SqL K H b ((oi o).map V.int) ∧ Good ns ∧ o.Perm (List.range ns.length) ∧
  ∀ H', Same H H' → Q (.str (mS (mks ns.length (hgt o)))) H'
theorem str_nil : ("" : Str) = mS [] := by decide +kernel
theorem mS_app (ms : List Bool) (b : Bool) : mS ms ++ (⟨#[CC.ch b]⟩ : Str) = mS (ms ++ [b]) := by
  apply TL.ext_tl
  rw [TL.tl_append]
  show (ms.map CC.ch) ++ [CC.ch b] = (ms ++ [b]).map CC.ch
  rw [List.map_append]
  rfl
theorem mks_step (n : Nat) (h : Nat → Int) (i : Nat) : (List.range (i + 1)).map (mB n h) = (List.range i).map (mB n h) ++ [mB n h i] := by
  rw [List.range_succ, List.map_append]
  rfl
theorem hl_at {n : Nat} {o : List Nat} {c : Nat} (h : c < n) : ((hl n o).map V.int)[c]? = some (.int (hgt o c)) := by
  unfold hl
  rw [List.getElem?_map, List.getElem?_map, List.getElem?_range h]
  rfl
theorem hl_pk {n : Nat} {o : List Nat} {c : Nat} (h : c < n) : atI ((hl n o).map V.int) ((c : Int) - 1) = some (.int (hgt o (pk c n))) := by
  have e : ((hl n o).map V.int).length = n := by rw [id_len, hl_len]
  refine at_pk (by rw [e]; exact h) ?_
  rw [e]
  exact hl_at (pk_lt h)
section
variable {P : Program} {w : World} {K : PySem.W.Frag} {mg : Str → Option Value} {base : Heap} {f fG fS fH fR fA fB : Addr} {fd dG dS dH dR dA dB : FuncData} {t : Tok}
theorem ok_marks (W : Wd K mg fG fS fH fR fA fB dG dS dH dR dA dB t) (D : Df K mg "marks_of" sMarks ["gaps", "order"] f fd) : FnOk P w K mg base CX0 3 f fd ["gaps", "order"] (spMarks K) := by
  have GS : FnOk P w K mg base CX0 2 fS dS _ (spSpots K) := ok_spots W.gb W.gM W.S W.G
  have GH : FnOk P w K mg base CX0 1 fH dH _ (spHeights K) := ok_heights W.gb W.H
  refine D.F.ok scMarks (fun vs H Q E h => ?_) (fun cdv A outer s H vs Q E hr h => ?_)
  · obtain ⟨a, b, ns, o, rfl, _⟩ := h
    rfl
  obtain ⟨a, b, ns, o, rfl, hS, hO, g, hp, q⟩ := h
  have hr1 := hr.mono (show 1 ≤ 2 by decide)
  refine ⟨_, pss_cons (ps_set (i := 2) scMarks.nd rfl (.inl rfl) (pe_call GS hr (by rfl) W.S.g W.S.F.kp W.S.b .nil pass0 (pa_cons (pv 0) pa_nil)))
    (pss_cons (ps_set (i := 3) scMarks.nd rfl (.inl rfl) (pe_call GH hr1 (by rfl) W.H.g W.H.F.kp W.H.b .nil pass0 (pa_cons (pv 0) (pa_cons (pv 1) pa_nil))))
    (pss_cons (ps_set (i := 4) scMarks.nd rfl (.inl rfl) pe_str)
    (pss_cons (ps_for PassesOwn.never rfl (pi_range1 (by rfl) W.gb.range (pa_cons (pe_callB call_len_seq (by rfl) W.gb.len PySem.boot_len (pa_cons (pv 2) pa_nil)) pa_nil)) (pg_name (i := 5) scMarks.nd rfl (.inl rfl))
      (pss_cons (ps_set (i := 6) scMarks.nd rfl (.inl rfl) (pv 5))
      (pss_cons (ps_if (pt_cmpR op_eq (pe_op op_mod (pv 5) pe_int) pe_int (nomark _)) (pss_one (ps_set (i := 6) scMarks.nd rfl (.inl rfl) (pe_op op_sub (pv 5) pe_int))) pss_nil)
      (pss_cons (ps_set (i := 7) scMarks.nd rfl (.inl rfl) (pe_op op_sub (pe_op op_sub (pe_op op_mul pe_int (pv 5)) pe_int) (pv 6)))
      (pss_one (ps_if (pt_cmpR op_gt (pe_ix ix_list (pv 3) (pv 6) (fun _ _ => rfl)) (pe_ix ix_list (pv 3) (pv 7) (fun _ _ => rfl)) (nomark _))
        (pss_one (ps_set (i := 4) scMarks.nd rfl (.inl rfl) (pe_op op_add_str (pv 4) pe_str))) (pss_one (ps_set (i := 4) scMarks.nd rfl (.inl rfl) (pe_op op_add_str (pv 4) pe_str)))))))))
    (pss_one (ps_ret (pv 4)))))), ?_⟩
  have hl1 := id_len ns
  have v := g.ev.le
  refine ⟨_, rfl, a, ns, rfl, hS, g, fun H1 p s1 np ep => ?_⟩
  refine ⟨_, rfl, _, rfl, a, b, ns, o, rfl, s1.seq hS, s1.seq hO, v.2.1, hp, fun H2 p2 s2 np2 ep2 => ?_⟩
  have es : H2 p = some (.lst ((spl ns).map V.int)) := s2 _ _ ep
  have hh : SqL K H2 p2 ((hl ns.length o).map V.int) := SqL.of ep2
  have e0 : ((spl ns).map V.int).length = ns.length := by rw [id_len, spl_len]
  refine ⟨_, rfl, p, _, rfl, .inl (SqL.of es), _, rfl, by omega, by omega, ?_⟩
  rw [e0]
  refine for_range (Pv := fun i σ H' => H' = H2 ∧ ∃ y5 y6 y7, σ = [some (.ref a), some (.ref b), some (.ref p), some (.ref p2), some (.str (mS ((List.range i).map (mB ns.length (hgt o))))), y5, y6, y7]) ⟨rfl, none, none, none, by rw [str_nil]; rfl⟩ (fun i σ H' hi hP => ?_) (fun σ H' hP => ?_)
  · obtain ⟨rfl, y5, y6, y7, rfl⟩ := hP
    have hi' : i < ns.length := by omega
    have ei : (0 : Int) + (i : Int) = (i : Int) := by omega
    rw [ei]
    have hst := mks_step ns.length (hgt o) i
    have hsz : (mS ((List.range i).map (mB ns.length (hgt o)))).length + 1 ≤ sizeLine := by
      rw [mS_len, List.length_map, List.length_range]
      exact line_ge (by omega)
    refine ⟨_, rfl, _, rfl, _, _, rfl, rfl, (by show (0 : Int) < 2; decide), rfl, _, rfl, ?_⟩
    refine ite2 (fun c => ?_) (fun c => ?_)
    · have e := V.int.inj (of_decide_eq_true c)
      have ec : 2 * (i : Int) - 1 - ((i : Int) - 1) = (i : Int) := by omega
      refine ⟨_, rfl, _, _, rfl, rfl, _, rfl, _, _, rfl, rfl, .inl ⟨by decide, by decide⟩, _, _, rfl, rfl, _, rfl, _, _, rfl, rfl, ?_⟩
      refine ⟨_, rfl, _, rfl, p2, _, _, _, rfl, rfl, hh, hl_pk hi', _, rfl, _, rfl, p2, _, _, _, rfl, rfl, hh, at_nat ec (hl_at hi'), _, _, rfl, rfl, _, rfl, ?_⟩
      have hm : mB ns.length (hgt o) i = decide (hgt o i < hgt o (pk i ns.length)) := by
        unfold mB
        rw [if_pos (by omega)]
      refine ite2 (fun c2 => ?_) (fun c2 => ?_)
      · rw [c2] at hm
        refine ⟨_, rfl, _, _, rfl, rfl, hsz, rfl, some (.int (i : Nat)), some (.int ((i : Nat) - 1)), some (.int (2 * (i : Nat) - 1 - ((i : Nat) - 1))), ?_⟩
        rw [hst, hm, ← mS_app, ← str_v]
        rfl
      · rw [Bool.eq_false_iff.mpr c2] at hm
        refine ⟨_, rfl, _, _, rfl, rfl, hsz, rfl, some (.int (i : Nat)), some (.int ((i : Nat) - 1)), some (.int (2 * (i : Nat) - 1 - ((i : Nat) - 1))), ?_⟩
        rw [hst, hm, ← mS_app, ← str_h]
        rfl
    · have e : ¬ ((i : Nat) : Int) % 2 = 0 := fun z => c (decide_eq_true (congrArg V.int z))
      have ec : 2 * (i : Int) - 1 - (i : Int) = (i : Int) - 1 := by omega
      refine ⟨_, rfl, _, _, rfl, rfl, .inl ⟨by decide, by decide⟩, _, _, rfl, rfl, _, rfl, _, _, rfl, rfl, ?_⟩
      refine ⟨_, rfl, _, rfl, p2, _, _, _, rfl, rfl, hh, at_nat rfl (hl_at hi'), _, rfl, _, rfl, p2, _, _, _, rfl, rfl, hh, (by show atI _ (2 * (i : Int) - 1 - (i : Int)) = _; rw [ec]; exact hl_pk hi'), _, _, rfl, rfl, _, rfl, ?_⟩
      have hm : mB ns.length (hgt o) i = decide (hgt o (pk i ns.length) < hgt o i) := by
        unfold mB
        rw [if_neg (by omega)]
      refine ite2 (fun c2 => ?_) (fun c2 => ?_)
      · rw [c2] at hm
        refine ⟨_, rfl, _, _, rfl, rfl, hsz, rfl, some (.int (i : Nat)), some (.int (i : Nat)), some (.int (2 * (i : Nat) - 1 - (i : Nat))), ?_⟩
        rw [hst, hm, ← mS_app, ← str_v]
        rfl
      · rw [Bool.eq_false_iff.mpr c2] at hm
        refine ⟨_, rfl, _, _, rfl, rfl, hsz, rfl, some (.int (i : Nat)), some (.int (i : Nat)), some (.int (2 * (i : Nat) - 1 - (i : Nat))), ?_⟩
        rw [hst, hm, ← mS_app, ← str_h]
        rfl
  · obtain ⟨rfl, y5, y6, y7, rfl⟩ := hP
    exact ⟨_, rfl, q _ (s1.trans s2)⟩
end
end CC

/-! ## B2 -/
/-! list(reversed(a list)): the layer has tuple(reversed(..)) alone; this is its like for list, over the same parts. -/
namespace CC
open PySem PySem.Spec PyProof.Rows L2
section
variable {prog : Program} {w : World} {A : Around} {E : Value → Shared → Prop} {s : Shared}
/-- the new list S takes in what the reversed iterator gives -/
theorem init_rev {R : Result → Shared → Prop} {it l S : Addr} {items : Array Value} (hh : A.handled = none) (hit : s.heap.IsRevIter it l ((items.size : Int) - 1)) (hl : s.heap.IsList l items) (hne : l ≠ it)
    (hn : items.size ≤ sizeLine) (hSi : S ≠ it) (hSl : S ≠ l) (hS : s.heap.get? S = some { cls := .type "list", data := .seq #[] })
    (hR : ∀ h' tk acc' c', (∀ b o, b ≠ S → b ≠ it → s.heap.get? b = some o → h'.get? b = some o) → h'.get? S = some { cls := .type "list", dict := none, data := .seq acc' c', slots := #[] } →
      ItemsOf (fun i v => items[items.size - 1 - i]? = some v) acc' items.size → R (.ok (.ret .none)) { s with heap := h', toks := tk }) :
    wpAny (model prog w) A.in1 (Builtin.«list.__init__» ⟨[.ref S, .ref it], []⟩)
      (fun fin s' => match fin with | .done f => R (.ok f) s' | .again c' => c'.quiet = true ∧ codeAny (model prog w) A c' R s') (fun e s' => R (.error e) s') s := by
  show wpAny _ _ (Builtin.List.listItems (.ref S) >>= fun old => Builtin.List.listUpdate (.ref S) (fun _ => #[]) >>= fun _ => letGo old.toList.reverse >>= fun _ => Builtin.List.listExtendWith (.ref S) (.ref it) .none) _ _ s
  refine wpAny_bind ?_
  unfold Builtin.List.listItems
  refine wpAny_bind (wpAny_seqItems hS rfl (wpAny_pure ?_))
  show wpAny _ _ (updateSeq S (fun _ => #[]) >>= fun _ => letGo (#[] : Array Value).toList.reverse >>= fun _ => Builtin.List.listExtendWith (.ref S) (.ref it) .none) _ _ s
  refine wpAny_bind (wpAny_updateSeq hS rfl ?_)
  have h2 := Heap.get?_update_self (Obj.mapSeq (fun _ => (#[] : Array Value))) hS rfl
  have oth : ∀ b o, b ≠ S → s.heap.get? b = some o → (s.heap.update S (Obj.mapSeq (fun _ => (#[] : Array Value)))).get? b = some o := fun b o hb e =>
    (Heap.get?_update_other _ _ (Ne.symm hb)).trans e
  refine wpAny_bind (wpAny_letGo ?_)
  have hi2 : (s.heap.update S (Obj.mapSeq (fun _ => (#[] : Array Value)))).IsRevIter it l ((items.size : Int) - 1) := hit.at fun o e => oth it o (Ne.symm hSi) e
  have hl2 : (s.heap.update S (Obj.mapSeq (fun _ => (#[] : Array Value)))).IsList l items := hl.at fun o e => oth l o (Ne.symm hSl) e
  generalize hg : s.heap.update S (Obj.mapSeq (fun _ => (#[] : Array Value))) = hp at *
  have W := (Walks.listRev (prog := prog) (w := w) (A := A.in1) hh it l hne items).toS
  have hSf : S ∉ [it, l] := by
    intro hm
    rcases List.mem_cons.mp hm with e | hm
    · exact hSi e
    · exact hSl (List.mem_singleton.mp hm)
  have hT : ({ s with heap := hp } : Shared).TypeIs (.ref it) "list_reverseiterator" := Heap.IsRevIter.typeIs (s := { s with heap := hp }) hi2
  have h1 : Builtin.List.listSameRef (.ref S) (.ref it) = false := by simp [Builtin.List.listSameRef, hSi]
  unfold Builtin.List.listExtendWith
  refine wpAny_bind (wpAny_typeOf hT ?_)
  rw [if_neg (by rw [h1]; decide)]
  refine wpAny_bind (wpAny_pyIter_revIter (s := { s with heap := hp }) hi2 ?_)
  refine wpAny_bind (wpAny_holding ?_)
  unfold Builtin.List.listLengthHint
  refine wpAny_bind (wpAny_specialOf hT RT.nolen_lri ?_)
  show wpAny _ A.in1 (specialOf (Value.ref it) (Str.ofString "__length_hint__") >>= _) _ _ _
  refine wpAny_bind (wpAny_specialOf hT RT.hint_lri ?_)
  generalize hid : ("list_reverseiterator.__length_hint__" : String) = id0
  wp_delta
  rw [show splitId id0 = some ("list_reverseiterator", "__length_hint__") from by subst hid; decide +kernel]
  subst hid
  refine wpAny_bind (wpAny_isInstance (b := true) hT (by rw [isSubtype_type]; kernel_rfl) ?_)
  refine wpAny_pure ?_
  rw [if_neg (by decide)]
  have e0 : ((items.size : Nat) : Int) - 1 - ((0 : Nat) : Int) = (items.size : Int) - 1 := by omega
  refine wpAny_pure ⟨plainId_quiet F.plain_extend_loop _, codeAny_extend_loopS W hn S hSf _ items.size 0 _ _ _ rfl (Nat.zero_le _) ⟨Nat.zero_le _, by rw [e0]; exact hi2, hl2⟩ h2 (ItemsOf.nil _) fun s' acc' c' hm hS' hacc => ?_⟩
  rw [Moved.eq_with hm]
  refine hR s'.heap s'.toks acc' c' (fun b o hb hbi e => hm.heap b o (fun hmem => ?_) (oth b o hb e)) hS' hacc
  rcases List.mem_cons.mp hmem with e' | hmem
  · exact hb e'
  · exact hbi (List.mem_singleton.mp hmem)
theorem call_list_rev {it l : Addr} {items : Array Value} {Q : Value → Shared → Prop} (hh : A.handled = none) (hit : s.heap.IsRevIter it l ((items.size : Int) - 1)) (hl : s.heap.IsList l items) (hne : l ≠ it)
    (hn : items.size ≤ sizeLine)
    (hQ : ∀ h' tk acc' c', (∀ b o, b ≠ it → s.heap.get? b = some o → h'.get? b = some o) → h'.get? s.heap.objs.size = some { cls := .type "list", dict := none, data := .seq acc' c', slots := #[] } →
      ItemsOf (fun i v => items[items.size - 1 - i]? = some v) acc' items.size → Q (.ref s.heap.objs.size) { s with heap := h', toks := tk }) :
    wpAny (model prog w) A (call (.type "list") [.ref it]) Q E s := by
  refine callType_codes (Q₁ := fun obj s1 => obj = .ref s.heap.objs.size ∧ s1 = { s with heap := s.heap.push { cls := .type "list", data := .seq #[] } }) F.called_list (F.typeCall_list_1 _) F.entry_list_init
    (code_list_new _ ⟨rfl, rfl⟩) fun obj s1 h1 => ?_
  obtain ⟨rfl, rfl⟩ := h1
  have hS : (s.heap.push { cls := .type "list", data := .seq #[] }).get? s.heap.objs.size = some { cls := .type "list", data := .seq #[] } := Heap.get?_push_size _ rfl
  obtain ⟨oi, hoi, _⟩ := id hit
  obtain ⟨ol, hol, _⟩ := id hl
  refine ⟨⟨_, hS, rfl⟩, F.args_list_init_2 _ _, init_rev (A := A.in1) hh (hit.at fun o e => Heap.get?_push_of_some _ e) (hl.push _) hne hn (Nat.ne_of_gt (Heap.lt_size hoi)) (Nat.ne_of_gt (Heap.lt_size hol)) hS fun h' tk acc' c' hk hS' hacc => ?_⟩
  exact ⟨rfl, hQ h' tk acc' c' (fun b o hbi e => hk b o (Nat.ne_of_lt (Heap.lt_size e)) hbi (Heap.get?_push_of_some _ e)) hS' hacc⟩
end
/-- list(reversed(x)), x a list: a new list -/
def tLstRev (K : PySem.W.Frag) (te : TE) : TE := fun σ H Q => te σ H fun v H1 => ∃ (a : Addr) (xs : List V), v = .ref a ∧ SqL K H1 a xs ∧ ∀ q, H1 q = none → Q (.ref q) (upd H1 q (.lst xs.reverse))
theorem pe_lstRev {X : Cx} {e : Expr} {te : TE} {p p2 pos pos2 : Pos} (hc : X.calm = true) (hg : Gl X "list") (hm : X.mg "list" = none) (hg2 : Gl X "reversed") (hm2 : X.mg "reversed" = none) (he : PE X e te)
    (hs : starEach [e] X.env = (false, eval e X.env) :: starEach [] X.env := by rfl)
    (hs2 : starEach [.Call (.Name "reversed" p2) [e] [] pos2] X.env = (false, eval (.Call (.Name "reversed" p2) [e] [] pos2) X.env) :: starEach [] X.env := by rfl) :
    PE X (.Call (.Name "list" p) [.Call (.Name "reversed" p2) [e] [] pos2] [] pos) (tLstRev X.K te) := by
  refine ⟨fun pins s σ H Q I h => ?_⟩
  refine Call_ (ld_blt I hg hm boot_list (PyProof.Rows.callWith_type1 (args_cons (Call_ (ld_blt I hg2 hm2 PyProof.Rows.boot_reversed
    (PyProof.Rows.callWith_type1 (args_cons (thn (he.run pins s σ H _ I h) fun u s1 ⟨v, H1, I1, r1, q1⟩ => args_nil ?_) hs) hs rfl))) hs2) hs2 rfl))
  obtain ⟨a, xs, ev, hq, q⟩ := q1
  subst ev
  obtain rfl : u = Value.ref a := r1
  obtain ⟨its, rv, pl, hz⟩ := I1.list hq
  refine call_reversed_list pl.isList (args_nil ?_)
  have I2 : Inv X pins σ H1 { s1 with heap := s1.heap.push (revObj a ((its.toArray.size : Int) - 1)) } := I1.kept (t' := s1.toks) fun b o e => Heap.get?_push_of_some _ e
  have fp := I1.fpOk (H' := H1) (b := s1.heap.objs.size) (Nat.le_refl _) (I1.hok.fresh (Nat.le_refl _))
  have hl := pl.isList
  obtain ⟨ol, hol, _⟩ := id hl
  have hn : its.toArray.size ≤ sizeLine := by
    rw [List.size_toArray, ← rv.length]
    exact hz
  have hne : a ≠ s1.heap.objs.size := Nat.ne_of_lt (Heap.lt_size hol)
  refine call_list_rev (s := { s1 with heap := s1.heap.push (revObj a ((its.toArray.size : Int) - 1)) }) (I1.ok.hd hc) ⟨_, Heap.get?_push_size _ rfl, rfl, rfl⟩ (hl.push _) hne hn fun h' tk acc c' hk hS hi => ?_
  have hf : H1 (s1.heap.push (revObj a ((its.toArray.size : Int) - 1))).objs.size = none := I2.hok.fresh (Nat.le_refl _)
  refine ⟨.ref (s1.heap.push (revObj a ((its.toArray.size : Int) - 1))).objs.size, upd H1 (s1.heap.push (revObj a ((its.toArray.size : Int) - 1))).objs.size (.lst xs.reverse), ?_, rfl, q _ hf⟩
  refine I2.turnedNew (t' := tk) (ch := [s1.heap.objs.size]) (fun b o hb e => hk b o (fun z => hb (List.mem_singleton.mpr z)) e) (fun b hb => ?_) (Nat.le_refl _) ?_
  · rw [List.mem_singleton.mp hb]
    exact fp
  · refine (show ObjOk X.prog X.w _ _ _ (.lst xs.reverse) from ⟨by rw [List.length_reverse]; exact hz, acc.toList, c', RT.vals_rev rv hi, ?_⟩)
    rw [Array.toArray_toList]
    exact hS
end CC

/-! ## D5 -/
namespace CC
open PySem L2
/-! ### crimp_spot, crimp_opened -/
theorem cm_at {M : List Bool} {k : Nat} (h : k < M.length) : (mS M).cps.toList[k]? = some (CC.ch (M.getD k false)) := by
  show (M.map CC.ch)[k]? = _
  rw [List.getElem?_map, List.getD_eq_getElem?_getD, List.getElem?_eq_getElem h]
  rfl
theorem ne_ch (a b : Bool) : (!decide (V.str ⟨#[CC.ch a]⟩ = V.str ⟨#[CC.ch b]⟩)) = (a != b) := by
  by_cases h : a = b
  · subst h
    rw [decide_eq_true rfl]
    cases a <;> rfl
  · rw [decide_eq_false fun z => h (sS_inj.mp (V.str.inj z))]
    revert h
    cases a <;> cases b <;> simp
theorem eq_v (a : Bool) : decide (V.str ⟨#[CC.ch a]⟩ = V.str "v") = a := by
  rw [str_v]
  by_cases h : a = true
  · subst h
    exact decide_eq_true rfl
  · rw [decide_eq_false fun z => h (sS_inj.mp (V.str.inj z))]
    exact (Bool.eq_false_iff.mpr h).symm
abbrev sSpot : Stmt := top 16
theorem scSpot : FnScope ["lengths", "marks", "many", "k", "after"] ["lengths", "marks"] (defScope sSpot) := ⟨rfl, rfl, rfl, by decide +kernel, rfl, by decide +kernel, by decide +kernel⟩
/-- a place, or None -/
def oV : Option Nat → V
  | none => .non
  | some k => .int (k : Nat)
def spSpot (K : PySem.W.Frag) : Sp := fun vs H Q _ => ∃ (a : Addr) (L : List Int) (M : List Bool), vs = [.ref a, .str (mS M)] ∧ SqL K H a (L.map V.int) ∧ M.length = L.length ∧ L.length ≤ 8 ∧ Q (oV (cspot L M)) H
section
variable {P : Program} {w : World} {K : PySem.W.Frag} {mg : Str → Option Value} {base : Heap} {f : Addr} {fd : FuncData}
theorem ok_spot (gb : Gb mg) (D : Df K mg "crimp_spot" sSpot ["lengths", "marks"] f fd) : FnOk P w K mg base CX0 1 f fd ["lengths", "marks"] (spSpot K) := by
  refine D.F.ok scSpot (fun vs H Q E h => ?_) (fun cdv A outer s H vs Q E hr h => ?_)
  · obtain ⟨a, L, M, rfl, _⟩ := h
    rfl
  obtain ⟨a, L, M, rfl, hS, hM, h8, q⟩ := h
  refine ⟨_, pss_cons (ps_set (i := 2) scSpot.nd rfl (.inl rfl) (pe_callB call_len_seq (by rfl) gb.len PySem.boot_len (pa_cons (pv 0) pa_nil)))
    (pss_cons (ps_if (pt_cmpR op_lt (pv 2) pe_int (nomark _)) (pss_one (ps_ret pe_non)) pss_nil)
    (pss_cons (ps_for PassesOwn.never rfl (pi_range1 (by rfl) gb.range (pa_cons (pv 2) pa_nil)) (pg_name (i := 3) scSpot.nd rfl (.inl rfl))
      (pss_cons (ps_set (i := 4) scSpot.nd rfl (.inl rfl) (pe_op op_mod (pe_op op_add (pv 3) pe_int) (pv 2)))
      (pss_one (ps_if (PW.pt (pw_and (pt_cmpR op_le (pe_ix ix_list (pv 0) (pv 3) (fun _ _ => rfl))
            (pe_callB (call_min2 rfl) (by rfl) gb.min (by decide +kernel) (pa_cons (pe_ix ix_list (pv 0) (pe_op op_sub (pv 3) pe_int) (fun _ _ => rfl)) (pa_cons (pe_ix ix_list (pv 0) (pv 4) (fun _ _ => rfl)) pa_nil))) (nomark _))
          (pw_and1 (pt_cmpR op_ne (pe_ix ix_str (pv 1) (pv 3) (fun _ _ => rfl)) (pe_ix ix_str (pv 1) (pv 4) (fun _ _ => rfl)) (nomark _)))))
        (pss_one (ps_ret (pv 3))) pss_nil))))
    (pss_one (ps_ret pe_non)))), ?_⟩
  have hl := id_len L
  have hms : (mS M).length ≤ sizeLine := by
    rw [mS_len]
    exact line_ge (by omega)
  refine ⟨_, rfl, a, _, rfl, .inl hS, ?_⟩
  refine ⟨_, rfl, _, _, rfl, rfl, _, rfl, ?_⟩
  refine ite2 (fun c => ?_) (fun c => ?_)
  · have c' := of_decide_eq_true c
    rw [hl] at c'
    unfold cspot at q
    rw [if_pos (by omega)] at q
    exact q
  have c' : ¬ ((L.length : Nat) : Int) < 4 := fun z => c (decide_eq_true (by rw [hl]; exact z))
  unfold cspot at q
  rw [if_neg (by omega)] at q
  refine ⟨_, rfl, _, rfl, by omega, by omega, for_range (Pv := fun i σ H' => H' = H ∧ (∀ j, j < i → cok L M j = false) ∧ ∃ y3 y4, σ = [some (.ref a), some (.str (mS M)), some (.int ((L.map V.int).length : Nat)), y3, y4])
    ⟨rfl, fun j hj => by omega, none, none, rfl⟩ (fun i σ H' hi hP => ?_) (fun σ H' hP => ?_)⟩
  · obtain ⟨rfl, hb, y3, y4, rfl⟩ := hP
    have hi' : i < L.length := by omega
    have ei : (0 : Int) + (i : Int) = (i : Int) := by omega
    rw [ei]
    have en : ((i : Nat) : Int) + 1 = (((i + 1 : Nat) : Nat) : Int) := by omega
    have hnx := nx_lt hi'
    refine ⟨_, rfl, _, _, rfl, rfl, _, rfl, _, _, rfl, rfl, (by rw [hl]; omega), ?_⟩
    have e4 : V.int ((((i : Nat) : Int) + 1) % ((L.map V.int).length : Nat)) = V.int (nx i L.length : Nat) := by rw [hl, nx_int]
    refine ⟨_, rfl, _, rfl, a, _, _, _, rfl, rfl, hS, at_nat rfl (id_at hi'), _, rfl, _, rfl, _, _, rfl, rfl, a, _, _, _, rfl, rfl, hS, id_pk hi', _, rfl, _, rfl, a, _, _, _, rfl, e4, hS, at_nat rfl (id_at hnx), _, _, rfl, _, _, rfl, rfl, _, rfl, ?_⟩
    have hce : cok L M i = (decide (L.getD i 0 ≤ if L.getD (nx i L.length) 0 < L.getD (pk i L.length) 0 then L.getD (nx i L.length) 0 else L.getD (pk i L.length) 0) && (M.getD i false != M.getD (nx i L.length) false)) := rfl
    have stay : cok L M i = false → ∀ j, j < i + 1 → cok L M j = false := fun h j hj => by
      by_cases z : j = i
      · rw [z]
        exact h
      · exact hb j (by omega)
    refine ite2 (fun c1 => ?_) (fun c1 => ?_)
    · rw [c1, Bool.true_and] at hce
      refine ⟨_, rfl, _, rfl, _, _, _, rfl, rfl, hms, at_nat rfl (cm_at (by omega)), _, rfl, _, rfl, _, _, _, rfl, e4, hms, at_nat rfl (cm_at (by omega)), rfl, _, rfl, ?_⟩
      rw [ne_ch]
      refine ite2 (fun c2 => ?_) (fun c2 => ?_)
      · rw [c2] at hce
        refine ⟨_, rfl, ?_⟩
        have e : (List.range L.length).find? (cok L M) = some i := by
          rw [List.find?_range_eq_some]
          refine ⟨hce, List.mem_range.mpr hi', fun j hj => ?_⟩
          rw [hb j hj]
          rfl
        rw [e] at q
        exact q
      · rw [Bool.eq_false_iff.mpr c2] at hce
        exact ⟨rfl, stay hce, _, _, rfl⟩
    · rw [Bool.eq_false_iff.mpr c1, Bool.false_and] at hce
      refine iteF ?_
      exact ⟨rfl, stay hce, _, _, rfl⟩
  · obtain ⟨rfl, hb, y3, y4, rfl⟩ := hP
    have e : (List.range L.length).find? (cok L M) = none := by
      rw [List.find?_eq_none]
      intro j hj
      rw [hb j (by have := List.mem_range.mp hj; omega)]
      exact Bool.false_ne_true
    rw [e] at q
    exact q
end
abbrev sOpened : Stmt := top 17
theorem scOpened : FnScope ["order", "three", "upward", "found", "wedge"] ["order", "three", "upward"] (defScope sOpened) := ⟨rfl, rfl, rfl, by decide +kernel, rfl, by decide +kernel, by decide +kernel⟩
def spOpened (K : PySem.W.Frag) : Sp := fun vs H Q _ => ∃ (a b : Addr) (o : List Nat) (e0 e1 e2 : Nat) (up : Bool), vs = [.ref a, .ref b, .bl up] ∧ SqL K H a ((oi o).map V.int) ∧ H b = some (.lst ((oi [e0, e1, e2]).map V.int)) ∧ o.length ≤ 100 ∧
  ∀ H' p, Same H H' → H p = none → H' p = some (.lst ((oi (opn o e0 e1 e2 up)).map V.int)) → Q (.ref p) H'
theorem opn_step (o : List Nat) (e0 e1 e2 : Nat) (up : Bool) {i x : Nat} (h : o[i]? = some x) : opn (o.take (i + 1)) e0 e1 e2 up = opn (o.take i) e0 e1 e2 up ++ if x = e0 then (if up = true then [e0, e1, e2] else [e2, e1, e0]) else [x] := by
  rw [take_one h]
  unfold opn
  rw [List.flatMap_append]
  congr 1
  simp
theorem opn_len (o : List Nat) (e0 e1 e2 : Nat) (up : Bool) : (opn o e0 e1 e2 up).length ≤ 3 * o.length := by
  induction o with
  | nil => exact Nat.le_refl _
  | cons x r ih =>
    unfold opn at ih ⊢
    rw [List.flatMap_cons, List.length_append, List.length_cons]
    have : (if x = e0 then (if up = true then [e0, e1, e2] else [e2, e1, e0]) else [x]).length ≤ 3 := by
      split
      · cases up <;> exact Nat.le_refl 3
      · simp
    omega
section
variable {P : Program} {w : World} {K : PySem.W.Frag} {mg : Str → Option Value} {base : Heap} {f : Addr} {fd : FuncData}
theorem ok_opened (gb : Gb mg) (D : Df K mg "crimp_opened" sOpened ["order", "three", "upward"] f fd) : FnOk P w K mg base CX0 1 f fd ["order", "three", "upward"] (spOpened K) := by
  refine D.F.ok scOpened (fun vs H Q E h => ?_) (fun cdv A outer s H vs Q E hr h => ?_)
  · obtain ⟨a, b, o, e0, e1, e2, up, rfl, _⟩ := h
    rfl
  obtain ⟨a, b, o, e0, e1, e2, up, rfl, hO, hT, h8, q⟩ := h
  refine ⟨_, pss_cons (ps_set (i := 3) scOpened.nd rfl (.inl rfl) (pe_lst pa_nil))
    (pss_cons (ps_for PassesOwn.never rfl (pi_list (pv 0)) (pg_name (i := 4) scOpened.nd rfl (.inl rfl))
      (pss_one (ps_if (pt_cmpR op_ne (pv 4) (pe_ix ix_list (pv 1) pe_int (fun _ _ => rfl)) (nomark _))
        (pss_one (ps_expr (pe_bm PySem.F.plainAttrs_list PySem.F.slot_list_append PySem.F.type_list_append mt_append (pv 3) (pa_cons (pv 4) pa_nil))))
        (pss_one (ps_if (pt_val (pv 2))
          (pss_one (ps_expr (pe_bm PySem.F.plainAttrs_list PySem.F.slot_list_extend PySem.F.type_list_extend mt_extend (pv 3) (pa_cons (pv 1) pa_nil))))
          (pss_one (ps_expr (pe_bm PySem.F.plainAttrs_list PySem.F.slot_list_extend PySem.F.type_list_extend mt_extend (pv 3) (pa_cons (pe_lstRev rfl (by rfl) gb.list (by rfl) gb.reversed (pv 1)) pa_nil)))))))))
    (pss_one (ps_ret (pv 3)))), ?_⟩
  have hl : ((oi o).map V.int).length = o.length := by rw [id_len, oi_len]
  refine ⟨(by show 0 ≤ sizeLine; decide), fun p np => ?_⟩
  have s0 := same_new np (.lst [])
  refine ⟨_, rfl, a, rfl, ⟨_, s0.seq hO⟩, for_list (xs := (oi o).map V.int) (fun i σ H' => Same H H' ∧ H' p = some (.lst ((oi (opn (o.take i) e0 e1 e2 up)).map V.int)) ∧ ∃ y4, σ = [some (.ref a), some (.ref b), some (.bl up), some (.ref p), y4])
    ⟨s0, upd_same, none, rfl⟩ (fun i σ H' _ hP => hP.1.seq hO) (fun i x σ H' hx hP => ?_) (fun σ H' hP => ?_)⟩
  · obtain ⟨sm, ep, y4, rfl⟩ := hP
    obtain ⟨z, hz, rfl⟩ := iv_of hx
    obtain ⟨u, hu, rfl⟩ := oi_of hz
    have hb' : H' b = some (.lst ((oi [e0, e1, e2]).map V.int)) := sm _ _ hT
    have hsz : ((oi (opn (o.take i) e0 e1 e2 up)).map V.int).length ≤ 300 := by
      have h1 := opn_len (o.take i) e0 e1 e2 up
      rw [id_len, oi_len]
      rw [List.length_take] at h1
      omega
    have hst := opn_step o e0 e1 e2 up hu
    have nbp : b ≠ p := fun z => by
      rw [z] at hT
      rw [np] at hT
      cases hT
    refine ⟨_, rfl, _, rfl, b, _, _, _, rfl, rfl, SqL.of hb', atI_nat (j := 0) rfl, rfl, _, rfl, ?_⟩
    refine ite2 (fun c => ?_) (fun c => ?_)
    · have hne : ¬ u = e0 := fun z => by
        rw [z] at c
        rw [decide_eq_true rfl] at c
        exact Bool.noConfusion c
      rw [if_neg hne] at hst
      refine ⟨_, rfl, .inl ⟨rfl, _, SqL.of ep⟩, _, rfl, p, _, _, rfl, rfl, ep, small1000 (by omega), s_up sm np _, ?_, _, rfl⟩
      rw [upd_same, hst]
      unfold oi
      rw [List.map_append, List.map_append]
      rfl
    · have he : u = e0 := by
        have c2 : decide (V.int (u : Nat) = V.int (e0 : Nat)) = true := by
          cases z : decide (V.int (u : Nat) = V.int (e0 : Nat)) with
          | true => rfl
          | false => exact (c (by show (!decide (V.int (u : Nat) = V.int (e0 : Nat))) = true; rw [z]; rfl)).elim
        have := V.int.inj (of_decide_eq_true c2)
        omega
      rw [if_pos he] at hst
      refine ⟨_, rfl, _, rfl, ?_⟩
      refine ite2 (fun c2 => ?_) (fun c2 => ?_)
      · rw [if_pos c2] at hst
        refine ⟨_, rfl, .inl ⟨rfl, _, SqL.of ep⟩, _, rfl, p, b, _, _, rfl, rfl, ep, hb', ?_, s_up sm np _, ?_, _, rfl⟩
        · show _ + 3 ≤ sizeLine
          exact line_ge (by omega)
        · rw [upd_same, hst]
          unfold oi
          rw [List.map_append, List.map_append]
      · rw [if_neg c2] at hst
        refine ⟨_, rfl, .inl ⟨rfl, _, SqL.of ep⟩, _, rfl, b, _, rfl, SqL.of hb', fun p2 np2 => ?_⟩
        have npp : p ≠ p2 := ne_of_none ep np2
        refine ⟨p, p2, _, _, rfl, rfl, (by rw [upd_ne npp]; exact ep), upd_same, ?_, s_up (s_nw sm np2 _) np _, ?_, _, rfl⟩
        · show _ + 3 ≤ sizeLine
          exact line_ge (by omega)
        · rw [upd_same, hst]
          unfold oi
          rw [List.map_append, List.map_append]
          rfl
  · obtain ⟨sm, ep, y4, rfl⟩ := hP
    rw [hl, List.take_length] at ep
    exact ⟨_, rfl, q H' p sm np ep⟩
end
end CC

/-! ## B3 -/
/-! Slices: begun anew at a place, the first ones, the rest. -/
namespace CC
open PySem L2
def cutG {α : Type} (l : List α) (lo hi : Option Int) : List α := (l.drop (HT.sIx l.length 0 lo)).take (HT.sIx l.length l.length hi - HT.sIx l.length 0 lo)
theorem cutV_G (xs : List V) (lo hi : Option Int) : cutV xs lo hi = cutG xs lo hi := rfl
theorem cutS_G (M : List Bool) (lo hi : Option Int) : cutS (mS M) lo hi = mS (cutG M lo hi) := by
  unfold cutS cutG mS
  have e : (Str.length ⟨(M.map CC.ch).toArray⟩) = M.length := mS_len M
  rw [e]
  show (⟨(((M.map CC.ch).drop _).take _).toArray⟩ : Str) = _
  rw [← List.map_drop, ← List.map_take]
theorem cut_drop {α : Type} {l : List α} {o : Option Int} {j : Nat} (h : HT.sIx l.length 0 o = min j l.length) : cutG l o none = l.drop j := by
  unfold cutG
  rw [h, HT.sIx_none]
  by_cases c : j ≤ l.length
  · rw [Nat.min_eq_left c, List.take_of_length_le (by rw [List.length_drop]; omega)]
  · rw [Nat.min_eq_right (by omega), Nat.sub_self, List.drop_eq_nil_of_le (show l.length ≤ j by omega)]
    exact List.take_zero
theorem cut_take {α : Type} {l : List α} {o : Option Int} {j : Nat} (h : HT.sIx l.length l.length o = min j l.length) : cutG l none o = l.take j := by
  unfold cutG
  rw [h, HT.sIx_none, List.drop_zero, Nat.sub_zero]
  by_cases c : j ≤ l.length
  · rw [Nat.min_eq_left c]
  · rw [Nat.min_eq_right (by omega), List.take_of_length_le (show l.length ≤ j by omega), List.take_length]
theorem sIx_pk {n d k : Nat} (h : k < n) : HT.sIx n d (some ((k : Int) - 1)) = min (pk k n) n := by
  show (if (k : Int) - 1 < 0 then ((k : Int) - 1 + (n : Int)).toNat else min ((k : Int) - 1).toNat n) = _
  unfold pk
  by_cases c : k = 0
  · rw [if_pos (by omega), if_pos c]
    omega
  · rw [if_neg (by omega), if_neg c]
    omega
theorem cut_pk_from {α : Type} {l : List α} {k : Nat} (h : k < l.length) : cutG l (some ((k : Int) - 1)) none = l.drop (pk k l.length) := cut_drop (sIx_pk h)
theorem cut_pk_to {α : Type} {l : List α} {k : Nat} (h : k < l.length) : cutG l none (some ((k : Int) - 1)) = l.take (pk k l.length) := cut_take (sIx_pk h)
theorem cut_from {α : Type} {l : List α} (k : Nat) : cutG l (some (k : Int)) none = l.drop k := cut_drop (HT.sIx_nat _ _ _)
theorem cut_to {α : Type} {l : List α} (k : Nat) : cutG l none (some (k : Int)) = l.take k := cut_take (HT.sIx_nat _ _ _)
/-- xs[k - 1:] + xs[:k - 1] -/
theorem rd_rot {K : PySem.W.Frag} {σ : St} {H : Hp} {Q : VK} {i ik : Nat} {a : Addr} {k : Nat} {xs : List V} (hi : σ[i]? = some (some (.ref a))) (hk : σ[ik]? = some (some (.int (k : Nat)))) (hS : SqL K H a xs) (h8 : xs.length ≤ 500) (hlt : k < xs.length)
    (q : ∀ H' p, Same H H' → H p = none → H' p = some (.lst (rt (pk k xs.length) xs)) → Q (.ref p) H') :
    tOp rCat (tSl (rSlL K) (tVar i) (tPart (tOp (rI0 fun i j => .int (i - j)) (tVar ik) (tC (.int 1)))) tNoPart) (tSl (rSlL K) (tVar i) tNoPart (tPart (tOp (rI0 fun i j => .int (i - j)) (tVar ik) (tC (.int 1))))) σ H Q := by
  refine ⟨_, hi, _, hk, _, _, rfl, rfl, _, rfl, a, xs, rfl, hS, fun p1 n1 => ?_⟩
  have s1 := same_new n1 (.lst (cutV xs (some ((k : Int) - 1)) none))
  refine ⟨_, hi, _, hk, _, _, rfl, rfl, _, rfl, a, xs, rfl, s1.seq hS, fun p2 n2 => ?_⟩
  have s2 := s_nw s1 n2 (.lst (cutV xs none (some ((k : Int) - 1))))
  have l1 := cutV_length xs (some ((k : Int) - 1)) none
  have l2 := cutV_length xs none (some ((k : Int) - 1))
  refine ⟨p1, p2, _, _, rfl, rfl, (by rw [upd_ne (ne_of_none upd_same n2)]; exact upd_same), upd_same, line_ge (by omega), fun p np => ?_⟩
  refine q _ p (s_nw s2 np _) (s2.free np) ?_
  rw [upd_same, cutV_G, cutV_G, cut_pk_from hlt, cut_pk_to hlt]
  rfl
/-- xs[:i] + xs[j:] of a list -/
theorem rd_two {K : PySem.W.Frag} {σ : St} {H : Hp} {Q : VK} {i : Nat} {u v : Nat} {a : Addr} {xs : List V} (hi : σ[i]? = some (some (.ref a))) (hS : SqL K H a xs) (h8 : xs.length ≤ 500)
    (q : ∀ H' p, Same H H' → H p = none → H' p = some (.lst (xs.take u ++ xs.drop v)) → Q (.ref p) H') :
    tOp rCat (tSl (rSlL K) (tVar i) tNoPart (tPart (tC (.int (u : Nat))))) (tSl (rSlL K) (tVar i) (tPart (tC (.int (v : Nat)))) tNoPart) σ H Q := by
  refine ⟨_, hi, _, rfl, a, xs, rfl, hS, fun p1 n1 => ?_⟩
  have s1 := same_new n1 (.lst (cutV xs none (some (u : Int))))
  refine ⟨_, hi, _, rfl, a, xs, rfl, s1.seq hS, fun p2 n2 => ?_⟩
  have s2 := s_nw s1 n2 (.lst (cutV xs (some (v : Int)) none))
  have l1 := cutV_length xs none (some (u : Int))
  have l2 := cutV_length xs (some (v : Int)) none
  refine ⟨p1, p2, _, _, rfl, rfl, (by rw [upd_ne (ne_of_none upd_same n2)]; exact upd_same), upd_same, line_ge (by omega), fun p np => ?_⟩
  refine q _ p (s_nw s2 np _) (s2.free np) ?_
  rw [upd_same, cutV_G, cutV_G, cut_to, cut_from]
/-- the same of a text -/
theorem mS_cat (a b : List Bool) : mS a ++ mS b = mS (a ++ b) := by
  apply TL.ext_tl
  rw [TL.tl_append]
  show a.map CC.ch ++ b.map CC.ch = (a ++ b).map CC.ch
  rw [List.map_append]
theorem rd_rotS {σ : St} {H : Hp} {Q : VK} {i ik : Nat} {k : Nat} {M : List Bool} (hi : σ[i]? = some (some (.str (mS M)))) (hk : σ[ik]? = some (some (.int (k : Nat)))) (h8 : M.length ≤ 500) (hlt : k < M.length)
    (q : Q (.str (mS (rt (pk k M.length) M))) H) :
    tOp (fun x y H Q => ∃ i j, x = .str i ∧ y = .str j ∧ i.length + j.length ≤ sizeLine ∧ Q (.str (i ++ j)) H) (tSl rSlS (tVar i) (tPart (tOp (rI0 fun i j => .int (i - j)) (tVar ik) (tC (.int 1)))) tNoPart)
      (tSl rSlS (tVar i) tNoPart (tPart (tOp (rI0 fun i j => .int (i - j)) (tVar ik) (tC (.int 1))))) σ H Q := by
  have hz : (mS M).length ≤ sizeLine := by
    rw [mS_len]
    exact line_ge (by omega)
  have l1 := cutS_length (mS M) (some ((k : Int) - 1)) none
  have l2 := cutS_length (mS M) none (some ((k : Int) - 1))
  rw [mS_len] at l1 l2
  refine ⟨_, hi, _, hk, _, _, rfl, rfl, _, rfl, mS M, rfl, hz, ?_⟩
  refine ⟨_, hi, _, hk, _, _, rfl, rfl, _, rfl, mS M, rfl, hz, ?_⟩
  refine ⟨_, _, rfl, rfl, line_ge (by omega), ?_⟩
  rw [cutS_G, cutS_G, cut_pk_from hlt, cut_pk_to hlt, mS_cat]
  exact q
theorem rd_twoS {σ : St} {H : Hp} {Q : VK} {i : Nat} {u v : Nat} {M : List Bool} (hi : σ[i]? = some (some (.str (mS M)))) (h8 : M.length ≤ 500) (q : Q (.str (mS (M.take u ++ M.drop v))) H) :
    tOp (fun x y H Q => ∃ i j, x = .str i ∧ y = .str j ∧ i.length + j.length ≤ sizeLine ∧ Q (.str (i ++ j)) H) (tSl rSlS (tVar i) tNoPart (tPart (tC (.int (u : Nat)))))
      (tSl rSlS (tVar i) (tPart (tC (.int (v : Nat)))) tNoPart) σ H Q := by
  have hz : (mS M).length ≤ sizeLine := by
    rw [mS_len]
    exact line_ge (by omega)
  have l1 := cutS_length (mS M) none (some (u : Int))
  have l2 := cutS_length (mS M) (some (v : Int)) none
  rw [mS_len] at l1 l2
  refine ⟨_, hi, _, rfl, mS M, rfl, hz, ?_⟩
  refine ⟨_, hi, _, rfl, mS M, rfl, hz, ?_⟩
  refine ⟨_, _, rfl, rfl, line_ge (by omega), ?_⟩
  rw [cutS_G, cutS_G, cut_to, cut_from, mS_cat]
  exact q
/-- xs[2:] + xs[:2] -/
theorem rd_two' {K : PySem.W.Frag} {σ : St} {H : Hp} {Q : VK} {i : Nat} {u : Nat} {a : Addr} {xs : List V} (hi : σ[i]? = some (some (.ref a))) (hS : SqL K H a xs) (h8 : xs.length ≤ 500)
    (q : ∀ H' p, Same H H' → H p = none → H' p = some (.lst (xs.drop u ++ xs.take u)) → Q (.ref p) H') :
    tOp rCat (tSl (rSlL K) (tVar i) (tPart (tC (.int (u : Nat)))) tNoPart) (tSl (rSlL K) (tVar i) tNoPart (tPart (tC (.int (u : Nat))))) σ H Q := by
  refine ⟨_, hi, _, rfl, a, xs, rfl, hS, fun p1 n1 => ?_⟩
  have s1 := same_new n1 (.lst (cutV xs (some (u : Int)) none))
  refine ⟨_, hi, _, rfl, a, xs, rfl, s1.seq hS, fun p2 n2 => ?_⟩
  have s2 := s_nw s1 n2 (.lst (cutV xs none (some (u : Int))))
  have l1 := cutV_length xs none (some (u : Int))
  have l2 := cutV_length xs (some (u : Int)) none
  refine ⟨p1, p2, _, _, rfl, rfl, (by rw [upd_ne (ne_of_none upd_same n2)]; exact upd_same), upd_same, line_ge (by omega), fun p np => ?_⟩
  refine q _ p (s_nw s2 np _) (s2.free np) ?_
  rw [upd_same, cutV_G, cutV_G, cut_to, cut_from]
theorem rd_twoS' {σ : St} {H : Hp} {Q : VK} {i : Nat} {u : Nat} {M : List Bool} (hi : σ[i]? = some (some (.str (mS M)))) (h8 : M.length ≤ 500) (q : Q (.str (mS (M.drop u ++ M.take u))) H) :
    tOp (fun x y H Q => ∃ i j, x = .str i ∧ y = .str j ∧ i.length + j.length ≤ sizeLine ∧ Q (.str (i ++ j)) H) (tSl rSlS (tVar i) (tPart (tC (.int (u : Nat)))) tNoPart)
      (tSl rSlS (tVar i) tNoPart (tPart (tC (.int (u : Nat))))) σ H Q := by
  have hz : (mS M).length ≤ sizeLine := by
    rw [mS_len]
    exact line_ge (by omega)
  have l1 := cutS_length (mS M) none (some (u : Int))
  have l2 := cutS_length (mS M) (some (u : Int)) none
  rw [mS_len] at l1 l2
  refine ⟨_, hi, _, rfl, mS M, rfl, hz, ?_⟩
  refine ⟨_, hi, _, rfl, mS M, rfl, hz, ?_⟩
  refine ⟨_, _, rfl, rfl, line_ge (by omega), ?_⟩
  rw [cutS_G, cutS_G, cut_to, cut_from, mS_cat]
  exact q
end CC

/-! ## D6 -/
namespace CC
open PySem L2
/-! ### crimp_order, order_for -/
theorem cspot_lt {L : List Int} {M : List Bool} {k : Nat} (h : cspot L M = some k) : k < L.length ∧ 4 ≤ L.length := by
  unfold cspot at h
  by_cases c : L.length < 4
  · rw [if_pos c] at h
    cases h
  · rw [if_neg c] at h
    have m := List.mem_of_find?_eq_some h
    rw [List.mem_range] at m
    exact ⟨m, by omega⟩
theorem oi_rt (j : Nat) (W : List Nat) : oi (rt j W) = rt j (oi W) := (rt_map _ j W).symm
theorem iv_rt (j : Nat) (L : List Int) : (rt j L).map V.int = rt j (L.map V.int) := (rt_map _ j L).symm
theorem oid_at {W : List Nat} {i : Nat} (h : i < W.length) : ((oi W).map V.int)[i]? = some (.int (W.getD i 0 : Nat)) := by
  refine iv_at ?_
  refine oi_at ?_
  rw [List.getD_eq_getElem?_getD, List.getElem?_eq_getElem h]
  rfl
theorem two_of {α : Type} (d : α) {l : List α} (h : l.length = 2) : l = [l.getD 0 d, l.getD 1 d] := by
  obtain ⟨a, b, rfl⟩ := len2 h
  rfl
theorem three_of {α : Type} (d : α) {l : List α} (h : 3 ≤ l.length) : l.take 3 = [l.getD 0 d, l.getD 1 d, l.getD 2 d] := by
  match l, h with
  | a :: b :: c :: r, _ => rfl
  | [], h => simp at h
  | [_], h => simp at h
  | [_, _], h => simp at h
abbrev sOrder : Stmt := top 18
theorem scOrder : FnScope ["lengths", "wedges", "marks", "k", "joined", "found"] ["lengths", "wedges", "marks"] (defScope sOrder) := ⟨rfl, rfl, rfl, by decide +kernel, rfl, by decide +kernel, by decide +kernel⟩
def spOrder (K : PySem.W.Frag) (f : Nat) : Sp := fun vs H Q _ => ∃ (a b : Addr) (L : List Int) (W : List Nat) (M : List Bool) (o : List Nat), vs = [.ref a, .ref b, .str (mS M)] ∧ H a = some (.lst (L.map V.int)) ∧ H b = some (.lst ((oi W).map V.int)) ∧
  L.length = 2 * f + 2 ∧ W.length = 2 * f + 2 ∧ M.length = 2 * f + 2 ∧ f ≤ 3 ∧ co f L W M = some o ∧ ∀ H' p, Same H H' → H p = none → H' p = some (.lst ((oi o).map V.int)) → Q (.ref p) H'
theorem co_len : ∀ (f : Nat) (L : List Int) (W : List Nat) (M : List Bool) (o : List Nat), co f L W M = some o → o.length ≤ 2 * 3 ^ f
  | 0, L, W, M, o, h => by
    unfold co at h
    by_cases c : M.getD 0 false ≠ M.getD 1 false
    · rw [if_pos c] at h
      cases h
    · rw [if_neg c] at h
      by_cases c2 : M.getD 0 false = decide (W.getD 1 0 % 2 = 1)
      · rw [if_pos c2] at h
        rw [← Option.some.inj h]
        exact Nat.le_refl 2
      · rw [if_neg c2] at h
        rw [← Option.some.inj h]
        exact Nat.le_refl 2
  | f + 1, L, W, M, o, h => by
    unfold co at h
    cases e1 : cspot L M with
    | none =>
      rw [e1] at h
      cases h
    | some k =>
      rw [e1] at h
      dsimp only [Option.bind_some] at h
      generalize hc : co f _ _ _ = r at h
      cases r with
      | none => cases h
      | some o' =>
        dsimp only [Option.bind_some] at h
        have ih := co_len f _ _ _ o' hc
        rw [← Option.some.inj h]
        refine Nat.le_trans (opn_len _ _ _ _ _) ?_
        rw [Nat.pow_succ]
        omega
section
variable {P : Program} {w : World} {K : PySem.W.Frag} {mg : Str → Option Value} {base : Heap} {f fS fO : Addr} {fd dS dO : FuncData}
theorem order_0 (gb : Gb mg) (D : Df K mg "crimp_order" sOrder ["lengths", "wedges", "marks"] f fd) : FnOk P w K mg base CX0 2 f fd ["lengths", "wedges", "marks"] (spOrder K 0) := by
  refine D.F.ok scOrder (fun vs H Q E h => ?_) (fun cdv A outer s H vs Q E hr h => ?_)
  · obtain ⟨a, b, L, W, M, o, rfl, _⟩ := h
    rfl
  obtain ⟨a, b, L, W, M, o, rfl, hA, hB, hL, hW, hM, _, hc, q⟩ := h
  refine ⟨_, pss_cons (ps_if (pt_cmpR op_eq (pe_callB call_len_seq (by rfl) gb.len PySem.boot_len (pa_cons (pv 1) pa_nil)) pe_int (nomark _))
      (pss_cons (ps_if (pt_cmpR op_ne (pe_ix ix_str (pv 2) pe_int (fun _ _ => rfl)) (pe_ix ix_str (pv 2) pe_int (fun _ _ => rfl)) (nomark _)) (pss_one ps_never) pss_nil)
      (pss_cons (ps_if (pt_cmpR op_eq (pe_cmpR op_eq (pe_ix ix_str (pv 2) pe_int (fun _ _ => rfl)) pe_str (nomark _)) (pe_cmpR op_eq (pe_op op_mod (pe_ix ix_list (pv 1) pe_int (fun _ _ => rfl)) pe_int) pe_int (nomark _)) (nomark _))
        (pss_one (ps_ret (pe_lst (pa_cons (pe_ix ix_list (pv 1) pe_int (fun _ _ => rfl)) (pa_cons (pe_ix ix_list (pv 1) pe_int (fun _ _ => rfl)) pa_nil))))) pss_nil)
      (pss_one (ps_ret (pe_lst (pa_cons (pe_ix ix_list (pv 1) pe_int (fun _ _ => rfl)) (pa_cons (pe_ix ix_list (pv 1) pe_int (fun _ _ => rfl)) pa_nil))))))) pss_nil) pss_never, ?_⟩
  have hl : ((oi W).map V.int).length = 2 := by rw [id_len, oi_len, hW]
  have hSB : SqL K H b ((oi W).map V.int) := SqL.of hB
  have hz : (mS M).length ≤ sizeLine := by
    rw [mS_len]
    exact line_ge (by omega)
  have m0 : atI (mS M).cps.toList 0 = some (CC.ch (M.getD 0 false)) := at_nat (j := 0) rfl (cm_at (by omega))
  have m1 : atI (mS M).cps.toList 1 = some (CC.ch (M.getD 1 false)) := at_nat (j := 1) rfl (cm_at (by omega))
  have w0 : atI ((oi W).map V.int) 0 = some (.int (W.getD 0 0 : Nat)) := at_nat (j := 0) rfl (oid_at (by omega))
  have w1 : atI ((oi W).map V.int) 1 = some (.int (W.getD 1 0 : Nat)) := at_nat (j := 1) rfl (oid_at (by omega))
  refine ⟨_, rfl, b, _, rfl, .inl hSB, rfl, _, rfl, ?_⟩
  rw [hl]
  unfold co at hc
  have cm : ¬ M.getD 0 false ≠ M.getD 1 false := fun c => by
    rw [if_pos c] at hc
    cases hc
  rw [if_neg cm] at hc
  refine ite2 (fun _ => ?_) (fun c => (c (decide_eq_true rfl)).elim)
  refine ⟨_, rfl, _, _, _, rfl, rfl, hz, m0, _, rfl, _, _, _, rfl, rfl, hz, m1, rfl, _, rfl, ?_⟩
  rw [ne_ch]
  refine ite2 (fun c => ?_) (fun _ => ?_)
  · exact (cm (bne_iff_ne.mp c)).elim
  refine ⟨_, rfl, _, _, _, rfl, rfl, hz, m0, rfl, _, rfl, b, _, _, _, rfl, rfl, hSB, w1, _, _, rfl, rfl, (by show (0 : Int) < 2; decide), rfl, rfl, _, rfl, ?_⟩
  rw [eq_v]
  have ed : decide (V.int (((W.getD 1 0 : Nat) : Int) % 2) = V.int 1) = decide (W.getD 1 0 % 2 = 1) := by
    refine decide_eq_decide.mpr ?_
    rw [V.int.injEq]
    omega
  refine ite2 (fun c => ?_) (fun c => ?_)
  · have c' := V.bl.inj (of_decide_eq_true c)
    have c2 : M.getD 0 false = decide (W.getD 1 0 % 2 = 1) := c'.trans ed
    rw [if_pos c2] at hc
    have ho := Option.some.inj hc
    refine ⟨_, rfl, b, _, _, _, rfl, rfl, hSB, w0, _, rfl, b, _, _, _, rfl, rfl, hSB, w1, (by show 2 ≤ sizeLine; decide), fun p np => ?_⟩
    refine q _ p (same_new np _) np ?_
    rw [upd_same, ← ho]
    rfl
  · have c2 : ¬ M.getD 0 false = decide (W.getD 1 0 % 2 = 1) := fun z => c (decide_eq_true (congrArg V.bl (z.trans ed.symm)))
    rw [if_neg c2] at hc
    have ho := Option.some.inj hc
    refine ⟨_, rfl, b, _, _, _, rfl, rfl, hSB, w1, _, rfl, b, _, _, _, rfl, rfl, hSB, w0, (by show 2 ≤ sizeLine; decide), fun p np => ?_⟩
    refine q _ p (same_new np _) np ?_
    rw [upd_same, ← ho]
    rfl
theorem order_s {n : Nat} (gb : Gb mg) (D : Df K mg "crimp_order" sOrder ["lengths", "wedges", "marks"] f fd) (DS : Df K mg "crimp_spot" sSpot ["lengths", "marks"] fS dS) (DO : Df K mg "crimp_opened" sOpened ["order", "three", "upward"] fO dO)
    (ih : FnOk P w K mg base CX0 (n + 2) f fd ["lengths", "wedges", "marks"] (spOrder K n)) : FnOk P w K mg base CX0 (n + 3) f fd ["lengths", "wedges", "marks"] (spOrder K (n + 1)) := by
  have GS : FnOk P w K mg base CX0 1 fS dS _ (spSpot K) := ok_spot gb DS
  have GO : FnOk P w K mg base CX0 1 fO dO _ (spOpened K) := ok_opened gb DO
  refine D.F.ok scOrder (fun vs H Q E h => ?_) (fun cdv A outer s H vs Q E hr h => ?_)
  · obtain ⟨a, b, L, W, M, o, rfl, _⟩ := h
    rfl
  obtain ⟨a, b, L, W, M, o, rfl, hA, hB, hL, hW, hM, h3, hc, q⟩ := h
  have hr1 := hr.mono (show 1 ≤ n + 2 by omega)
  refine ⟨_, pss_cons (ps_if (pt_cmpR op_eq (pe_callB call_len_seq (by rfl) gb.len PySem.boot_len (pa_cons (pv 1) pa_nil)) pe_int (nomark _)) pss_never pss_nil)
    (pss_cons (ps_set (i := 3) scOrder.nd rfl (.inl rfl) (pe_call GS hr1 (by rfl) DS.g DS.F.kp DS.b .nil pass0 (pa_cons (pv 0) (pa_cons (pv 2) pa_nil))))
    (pss_cons (ps_if (pt_cmpR op_isN (pv 3) pe_non (nomark _)) (pss_one ps_never) pss_nil)
    (pss_cons (ps_set (i := 0) scOrder.nd rfl (.inl rfl) (pe_op op_cat (pe_slice sl_list (pv 0) (po_some (pe_op op_sub (pv 3) pe_int)) po_none) (pe_slice sl_list (pv 0) po_none (po_some (pe_op op_sub (pv 3) pe_int)))))
    (pss_cons (ps_set (i := 1) scOrder.nd rfl (.inl rfl) (pe_op op_cat (pe_slice sl_list (pv 1) (po_some (pe_op op_sub (pv 3) pe_int)) po_none) (pe_slice sl_list (pv 1) po_none (po_some (pe_op op_sub (pv 3) pe_int)))))
    (pss_cons (ps_set (i := 2) scOrder.nd rfl (.inl rfl) (pe_op op_add_str (pe_slice sl_str (pv 2) (po_some (pe_op op_sub (pv 3) pe_int)) po_none) (pe_slice sl_str (pv 2) po_none (po_some (pe_op op_sub (pv 3) pe_int)))))
    (pss_cons (ps_set (i := 4) scOrder.nd rfl (.inl rfl) (pe_op op_cat (pe_lst (pa_cons (pe_op op_sub (pe_op op_add (pe_ix ix_list (pv 0) pe_int (fun _ _ => rfl)) (pe_ix ix_list (pv 0) pe_int (fun _ _ => rfl))) (pe_ix ix_list (pv 0) pe_int (fun _ _ => rfl))) pa_nil))
        (pe_slice sl_list (pv 0) (po_some pe_int) po_none)))
    (pss_cons (ps_set (i := 5) scOrder.nd rfl (.inl rfl) (pe_call ih hr (by rfl) D.g D.F.kp D.b .nil pass0 (pa_cons (pv 4) (pa_cons (pe_op op_cat (pe_slice sl_list (pv 1) po_none (po_some pe_int)) (pe_slice sl_list (pv 1) (po_some pe_int) po_none))
        (pa_cons (pe_op op_add_str (pe_slice sl_str (pv 2) po_none (po_some pe_int)) (pe_slice sl_str (pv 2) (po_some pe_int) po_none)) pa_nil)))))
    (pss_cons (ps_if (pt_cmpR op_isN (pv 5) pe_non (nomark _)) (pss_one ps_never) pss_nil)
    (pss_one (ps_ret (pe_call GO hr1 (by rfl) DO.g DO.F.kp DO.b .nil pass0 (pa_cons (pv 5) (pa_cons (pe_slice sl_list (pv 1) po_none (po_some pe_int))
      (pa_cons (pe_cmpR op_eq (pe_cmpR op_eq (pe_ix ix_str (pv 2) pe_int (fun _ _ => rfl)) pe_str (nomark _)) (pe_cmpR op_eq (pe_op op_mod (pe_ix ix_list (pv 1) pe_int (fun _ _ => rfl)) pe_int) pe_int (nomark _)) (nomark _)) pa_nil)))))))))))))), ?_⟩
  have hl : ((oi W).map V.int).length = 2 * (n + 1) + 2 := by rw [id_len, oi_len, hW]
  have hl0 : (L.map V.int).length = 2 * (n + 1) + 2 := by rw [id_len, hL]
  refine ⟨_, rfl, b, _, rfl, .inl (SqL.of hB), rfl, _, rfl, ?_⟩
  refine ite2 (fun c => ?_) (fun _ => ?_)
  · exfalso
    have e := V.int.inj (of_decide_eq_true c)
    rw [hl] at e
    omega
  unfold co at hc
  cases e1 : cspot L M with
  | none =>
    rw [e1] at hc
    cases hc
  | some k =>
  rw [e1] at hc
  dsimp only [Option.bind_some] at hc
  have hk := cspot_lt e1
  refine ⟨_, rfl, _, rfl, a, L, M, rfl, SqL.of hA, by omega, by omega, ?_⟩
  rw [e1]
  refine ⟨_, rfl, rfl, _, rfl, ?_⟩
  refine ite2 (fun c => (nomatch of_decide_eq_true c)) (fun _ => ?_)
  -- lengths, wedges, marks begun anew
  dsimp only [tSeq, tAsg, gName]
  refine rd_rot (i := 0) (ik := 3) (k := k) (xs := L.map V.int) rfl rfl (SqL.of hA) (by omega) (by omega) fun H1 p1 s1 n1 g1 => ?_
  refine rd_rot (i := 1) (ik := 3) (k := k) (xs := (oi W).map V.int) rfl rfl (s1.seq (SqL.of hB)) (by omega) (by omega) fun H2 p2 s2 n2 g2 => ?_
  dsimp only [tSeq, tAsg, gName]
  refine rd_rotS (i := 2) (ik := 3) (k := k) (M := M) rfl rfl (by omega) (by omega) ?_
  have g1' : H2 p1 = some (.lst ((rt (pk k L.length) L).map V.int)) := by
    rw [s2 _ _ g1, iv_rt, id_len]
  have g2' : H2 p2 = some (.lst ((oi (rt (pk k L.length) W)).map V.int)) := by
    rw [g2, oi_rt, iv_rt, id_len, oi_len, hW, hL]
  have eM : M.length = L.length := by omega
  rw [eM]
  have lL := rt_len (pk k L.length) L
  have lW := rt_len (pk k L.length) W
  have lM := rt_len (pk k L.length) M
  clear g1 g2 hl hl0
  revert hc lL lW lM g1' g2'
  generalize rt (pk k L.length) L = L'
  generalize rt (pk k L.length) W = W'
  generalize rt (pk k L.length) M = M'
  intro hc g1 g2 lL lW lM
  have S2 := s1.trans s2
  -- joined
  refine ⟨_, rfl, p1, _, _, _, rfl, rfl, SqL.of g1, at_nat (j := 0) rfl (id_at (by omega)), _, rfl, p1, _, _, _, rfl, rfl, SqL.of g1, at_nat (j := 2) rfl (id_at (by omega)), _, _, rfl, rfl, _, rfl, p1, _, _, _, rfl, rfl, SqL.of g1, at_nat (j := 1) rfl (id_at (by omega)), _, _, rfl, rfl,
    (by show 1 ≤ sizeLine; decide), fun p3 n3 => ?_⟩
  have s3 := same_new n3 (.lst [V.int (L'.getD 0 0 + L'.getD 2 0 - L'.getD 1 0)])
  refine ⟨_, rfl, _, rfl, p1, _, rfl, SqL.of (s3 _ _ g1), fun p4 n4 => ?_⟩
  have s4 := s_nw s3 n4 (.lst (cutV (L'.map V.int) (some 3) none))
  have l4 := cutV_length (L'.map V.int) (some 3) none
  rw [id_len] at l4
  refine ⟨p3, p4, _, _, rfl, rfl, (by rw [upd_ne (ne_of_none upd_same n4)]; exact upd_same), upd_same, line_ge (by show 1 + _ ≤ 1000; omega), fun p5 n5 => ?_⟩
  have s5 := s_nw s4 n5 (.lst ([V.int (L'.getD 0 0 + L'.getD 2 0 - L'.getD 1 0)] ++ cutV (L'.map V.int) (some 3) none))
  have g5 : (upd (upd (upd H2 p3 (.lst [V.int (L'.getD 0 0 + L'.getD 2 0 - L'.getD 1 0)])) p4 (.lst (cutV (L'.map V.int) (some 3) none))) p5 (.lst ([V.int (L'.getD 0 0 + L'.getD 2 0 - L'.getD 1 0)] ++ cutV (L'.map V.int) (some 3) none))) p5 =
      some (.lst (((L'.getD 0 0 + L'.getD 2 0 - L'.getD 1 0) :: L'.drop 3).map V.int)) := by
    have e3 : cutG (L'.map V.int) (some 3) none = (L'.map V.int).drop 3 := cut_from 3
    rw [upd_same, cutV_G, e3, List.map_cons, List.map_drop]
    rfl
  revert s5 g5
  generalize upd (upd (upd H2 p3 (.lst [V.int (L'.getD 0 0 + L'.getD 2 0 - L'.getD 1 0)])) p4 (.lst (cutV (L'.map V.int) (some 3) none))) p5 (.lst ([V.int (L'.getD 0 0 + L'.getD 2 0 - L'.getD 1 0)] ++ cutV (L'.map V.int) (some 3) none)) = H5
  intro s5 g5
  clear s4 s3 l4 n4 n3 n5
  have g2b := s5 _ _ g2
  have w3 : ((oi W').map V.int).length = 2 * n + 4 := by rw [id_len, oi_len]; omega
  refine ⟨_, rfl, ?_⟩
  dsimp only [tSeq, tAsg, gName]
  refine rd_two (i := 1) (u := 1) (v := 3) (xs := (oi W').map V.int) rfl (SqL.of g2b) (by omega) fun H6 p6 s6 n6 g6 => ?_
  refine rd_twoS (i := 2) (u := 1) (v := 3) (M := M') rfl (by omega) ?_
  have g6' : H6 p6 = some (.lst ((oi (W'.take 1 ++ W'.drop 3)).map V.int)) := by
    rw [g6]
    unfold oi
    rw [List.map_append, List.map_append, List.map_take, List.map_drop, List.map_take, List.map_drop]
  generalize hco : co n _ _ _ = r at hc
  cases r with
  | none => cases hc
  | some o' =>
  dsimp only [Option.bind_some] at hc
  have ho := Option.some.inj hc
  have lp : (W'.take 1 ++ W'.drop 3).length = 2 * n + 2 := by
    rw [List.length_append, List.length_take, List.length_drop]
    omega
  have lpM : (M'.take 1 ++ M'.drop 3).length = 2 * n + 2 := by
    rw [List.length_append, List.length_take, List.length_drop]
    omega
  have lpL : ((L'.getD 0 0 + L'.getD 2 0 - L'.getD 1 0) :: L'.drop 3).length = 2 * n + 2 := by
    rw [List.length_cons, List.length_drop]
    omega
  have g5b := s6 _ _ g5
  have g2c := s6 _ _ g2b
  refine ⟨p5, p6, _, _, _, o', rfl, g5b, g6', lpL, lp, lpM, by omega, hco, fun H7 p7 s7 n7 g7 => ?_⟩
  have g2d := s7 _ _ g2c
  have l3 : ((oi W').map V.int).take 3 = (oi [W'.getD 0 0, W'.getD 1 0, W'.getD 2 0]).map V.int := by
    rw [← three_of 0 (by omega)]
    unfold oi
    rw [List.map_take, List.map_take]
  have hz : (mS M').length ≤ sizeLine := by
    rw [mS_len]
    exact line_ge (by omega)
  refine ⟨_, rfl, rfl, _, rfl, ?_⟩
  refine ite2 (fun c => (nomatch of_decide_eq_true c)) (fun _ => ?_)
  refine ⟨_, rfl, _, rfl, _, rfl, p2, _, rfl, SqL.of g2d, fun p8 n8 => ?_⟩
  have c3 : cutG ((oi W').map V.int) none (some 3) = ((oi W').map V.int).take 3 := cut_to 3
  rw [cutV_G, c3, l3]
  have s8 := same_new n8 (.lst ((oi [W'.getD 0 0, W'.getD 1 0, W'.getD 2 0]).map V.int))
  refine ⟨_, rfl, _, _, _, rfl, rfl, hz, at_nat (j := 1) rfl (cm_at (by omega)), rfl, _, rfl, p2, _, _, _, rfl, rfl, SqL.of (s8 _ _ g2d), at_nat (j := 1) rfl (oid_at (by omega)), _, _, rfl, rfl, (by show (0 : Int) < 2; decide), rfl, rfl, ?_⟩
  rw [eq_v]
  have ed : decide (V.int (((W'.getD 1 0 : Nat) : Int) % 2) = V.int 1) = decide (W'.getD 1 0 % 2 = 1) := by
    refine decide_eq_decide.mpr ?_
    rw [V.int.injEq]
    omega
  have ef : decide (V.bl (M'.getD 1 false) = V.bl (decide (V.int (((W'.getD 1 0 : Nat) : Int) % 2) = V.int 1))) = (M'.getD 1 false == decide (W'.getD 1 0 % 2 = 1)) := by rw [dec_bl, ed]
  have h54 : 3 ^ n ≤ 27 := Nat.pow_le_pow_right (show 0 < 3 by decide) (show n ≤ 3 by omega)
  have lo' := co_len n _ _ _ o' hco
  refine ⟨p7, p8, o', W'.getD 0 0, W'.getD 1 0, W'.getD 2 0, _, rfl, SqL.of (s8 _ _ g7), upd_same, by omega, fun H9 p9 s9 n9 g9 => ?_⟩
  have sf := (((S2.trans s5).trans s6).trans s7).trans (s8.trans s9)
  have sg := ((((S2.trans s5).trans s6).trans s7).trans s8).free n9
  refine q H9 p9 sf sg ?_
  rw [g9, ← ho, ← ef]
theorem ok_order (gb : Gb mg) (D : Df K mg "crimp_order" sOrder ["lengths", "wedges", "marks"] f fd) (DS : Df K mg "crimp_spot" sSpot ["lengths", "marks"] fS dS) (DO : Df K mg "crimp_opened" sOpened ["order", "three", "upward"] fO dO) :
    ∀ n : Nat, FnOk P w K mg base CX0 (n + 2) f fd ["lengths", "wedges", "marks"] (spOrder K n)
  | 0 => order_0 gb D
  | n + 1 => order_s gb D DS DO (ok_order gb D DS DO n)
end
abbrev sFor : Stmt := top 19
theorem scFor : FnScope ["gaps", "marks", "many", "mark"] ["gaps", "marks"] (defScope sFor) := ⟨rfl, rfl, rfl, by decide +kernel, rfl, by decide +kernel, by decide +kernel⟩
def spFor (_ : PySem.W.Frag) : Sp := fun vs H Q _ => ∃ (a : Addr) (ns : List Int) (ms : List Bool) (o : List Nat), vs = [.ref a, .str (mS ms)] ∧ H a = some (.lst (ns.map V.int)) ∧ Good ns ∧ ms.length = ns.length ∧
  co (ns.length / 2 - 1) ns (List.range ns.length) ms = some o ∧ ∀ H' p, Same H H' → H p = none → H' p = some (.lst ((oi o).map V.int)) → Q (.ref p) H'
theorem in_hv (b : Bool) : decide (CC.ch b ∈ ("hv" : Str).cps.toList) = true := by
  cases b <;> decide +kernel
section
variable {P : Program} {w : World} {K : PySem.W.Frag} {mg : Str → Option Value} {base : Heap} {f fO fS fG fC fP : Addr} {fd dO dS dG dC dP : FuncData} {t : Tok}
theorem ok_for (gb : Gb mg) (gM : mg "MOST_WEDGES" = some (.int 8 t)) (D : Df K mg "order_for" sFor ["gaps", "marks"] f fd) (DP : Df K mg "spots_of" sSpots ["gaps"] fP dP) (DG : Df K mg "is_good" sGood ["gaps"] fG dG)
    (DC : Df K mg "crimp_order" sOrder ["lengths", "wedges", "marks"] fC dC) (DS : Df K mg "crimp_spot" sSpot ["lengths", "marks"] fS dS) (DO : Df K mg "crimp_opened" sOpened ["order", "three", "upward"] fO dO) :
    FnOk P w K mg base CX0 6 f fd ["gaps", "marks"] (spFor K) := by
  have GS : FnOk P w K mg base CX0 2 fP dP _ (spSpots K) := ok_spots gb gM DP DG
  refine D.F.ok scFor (fun vs H Q E h => ?_) (fun cdv A outer s H vs Q E hr h => ?_)
  · obtain ⟨a, ns, ms, o, rfl, _⟩ := h
    rfl
  obtain ⟨a, ns, ms, o, rfl, hA, g, hm, hc, q⟩ := h
  have v := g.ev.le
  have GC : FnOk P w K mg base CX0 5 fC dC _ (spOrder K (ns.length / 2 - 1)) := (ok_order gb DC DS DO (ns.length / 2 - 1)).mono (by omega)
  have hr2 := hr.mono (show 2 ≤ 5 by decide)
  refine ⟨_, pss_cons (ps_set (i := 2) scFor.nd rfl (.inl rfl) (pe_callB call_len_seq (by rfl) gb.len PySem.boot_len (pa_cons (pe_call GS hr2 (by rfl) DP.g DP.F.kp DP.b .nil pass0 (pa_cons (pv 0) pa_nil)) pa_nil)))
    (pss_cons (ps_if (PW.pt (pw_or (pt_cmpR op_ne (pe_callB call_len_str (by rfl) gb.len PySem.boot_len (pa_cons (pv 1) pa_nil)) (pv 2) (nomark _))
        (pw_or1 (pt_cmpR (op_neD hr.units) (pe_lc (own := [("mark", 3)]) (g := gName 3) rfl scFor.nd (pi_str (pv 1)) (blkOk_by (N := ["gaps", "marks", "many", "mark"]) (sc := defScope sFor) (by decide +kernel))
            (fun _ _ _ _ _ => pg_name (i := 3) scFor.nd rfl (Or.inl rfl)) (fun _ _ _ _ _ => pts_one (pt_cmpR op_notIn_sign (pv 3) pe_str (by rfl))) (fun _ _ _ _ _ => pv 3)) (pe_lst pa_nil) (nomark _)))))
      (pss_one ps_never) pss_nil)
    (pss_one (ps_ret (pe_call GC hr (by rfl) DC.g DC.F.kp DC.b .nil pass0 (pa_cons (pe_callTy call_list_of (by rfl) gb.list (by decide +kernel) (pa_cons (pv 0) pa_nil))
      (pa_cons (pe_listRg rfl (by rfl) gb.list (prg_1 (by rfl) gb.range (pv 2))) (pa_cons (pv 1) pa_nil))))))), ?_⟩
  have hl := id_len ns
  have e0 : ((spl ns).map V.int).length = ns.length := by rw [id_len, spl_len]
  have hz : (mS ms).length ≤ sizeLine := by
    rw [mS_len]
    exact line_ge (by omega)
  refine ⟨_, rfl, a, ns, rfl, SqL.of hA, g, fun H1 p1 s1 n1 g1 => ?_⟩
  refine ⟨p1, _, rfl, .inl (SqL.of g1), ?_⟩
  rw [e0]
  refine ⟨_, rfl, mS ms, rfl, hz, _, rfl, rfl, _, rfl, ?_⟩
  rw [mS_len, hm]
  refine ite2 (fun c => ?_) (fun _ => ?_)
  · exfalso
    rw [decide_eq_true rfl] at c
    exact Bool.noConfusion c
  refine ⟨_, rfl, mS ms, rfl, fun p2 n2 => lc_it (walk_str (z := mS ms)) (fun i H' => Same H1 H' ∧ H' p2 = some (.lst [])) ⟨same_new n2 _, upd_same⟩ (fun _ _ _ _ => trivial) (fun i x H2 H3 hi hP hy => ?_) (fun H2 hP => ?_)⟩
  · obtain ⟨rfl, c, hc', rfl⟩ := hy
    have hi' : i < ms.length := by
      have e : (mS ms).cps.size = ms.length := mS_len ms
      omega
    have ec : c = CC.ch (ms.getD i false) := by
      have e := cm_at hi'
      rw [Array.getElem?_toList] at e
      rw [e] at hc'
      exact (Option.some.inj hc').symm
    refine ⟨rfl, _, rfl, c, _, rfl, rfl, _, rfl, ?_⟩
    rw [ec, in_hv]
    exact hP
  · obtain ⟨sm, ep⟩ := hP
    refine ⟨(by show 0 ≤ sizeLine; decide), fun p3 n3 => ?_⟩
    have s3 := same_new n3 (.lst [])
    refine ⟨dI [], dI [], dI_ok (SqL.of (s3 _ _ ep)), dI_ok (SqL.of upd_same), dI_shape _, dI_shape _, _, rfl, ?_⟩
    rw [dI_same]
    refine iteF ?_
    have sa := (s1.trans sm).trans s3
    refine ⟨_, rfl, a, _, rfl, .inl (SqL.of (sa _ _ hA)), fun p4 n4 => ?_⟩
    have s4 := s_nw sa n4 (.lst (ns.map V.int))
    refine ⟨_, rfl, _, rfl, ⟨by omega, by omega, by omega, by omega, by omega⟩, fun p5 n5 => ?_⟩
    rw [rg_oi]
    have s5 := s_nw s4 n5 (.lst ((oi (List.range ns.length)).map V.int))
    refine ⟨_, rfl, p4, p5, ns, List.range ns.length, ms, o, rfl, ?_, upd_same, by omega, by rw [List.length_range]; omega, by omega, by omega, hc, fun H6 p6 s6 n6 g6 => q H6 p6 (s5.trans s6) (s5.free n6) g6⟩
    rw [upd_ne (ne_of_none upd_same n5)]
    exact upd_same
end
end CC

/-! ## D7 -/
namespace CC
open PySem L2
/-! ### the law's own: a number of the script, digits -/
abbrev sNth : Stmt := top 21
theorem scNth : FnScope ["_law_script", "_law_k"] ["_law_script", "_law_k"] (defScope sNth) := ⟨rfl, rfl, rfl, by decide +kernel, rfl, by decide +kernel, by decide +kernel⟩
/-- the script, as it was given -/
def Scr (K : PySem.W.Frag) (H : Hp) (a : Addr) : Prop := ∃ ns : List Int, SqL K H a (ns.map V.int) ∧ ns.length ≤ 63 ∧ ∀ z ∈ ns, Builtin.Int.intBits z ≤ 1048576
theorem Scr.same {K : PySem.W.Frag} {H H' : Hp} {a : Addr} (s : Same H H') (h : Scr K H a) : Scr K H' a := by
  obtain ⟨ns, h1, h2⟩ := h
  exact ⟨ns, s.seq h1, h2⟩
def spNth (K : PySem.W.Frag) : Sp := fun vs H Q _ => ∃ (a : Addr) (k : Int), vs = [.ref a, .int k] ∧ Scr K H a ∧ 0 ≤ k ∧ ∀ z : Int, Builtin.Int.intBits z ≤ 1048576 → Q (.int z) H
section
variable {P : Program} {w : World} {K : PySem.W.Frag} {mg : Str → Option Value} {base : Heap} {f : Addr} {fd : FuncData}
theorem ok_nth (gb : Gb mg) (D : Df K mg "_law_nth" sNth ["_law_script", "_law_k"] f fd) : FnOk P w K mg base CX0 1 f fd ["_law_script", "_law_k"] (spNth K) := by
  refine D.F.ok scNth (fun vs H Q E h => ?_) (fun cdv A outer s H vs Q E hr h => ?_)
  · obtain ⟨a, k, rfl, _⟩ := h
    rfl
  obtain ⟨a, k, rfl, ⟨ns, hS, h63, hb⟩, h0, q⟩ := h
  refine ⟨_, pss_one (ps_ret (pe_ifExp (pt_cmpR op_lt (pv 1) (pe_callB call_len_seq (by rfl) gb.len PySem.boot_len (pa_cons (pv 0) pa_nil)) (nomark _)) (pe_ix ix_list (pv 0) (pv 1) (fun _ _ => rfl)) pe_int)), ?_⟩
  have hl := id_len ns
  refine ⟨_, rfl, _, rfl, a, _, rfl, .inl hS, _, _, rfl, rfl, _, rfl, ?_⟩
  refine ite2 (fun c => ?_) (fun c => ?_)
  · have c' := of_decide_eq_true c
    rw [hl] at c'
    have hk : k.toNat < ns.length := by omega
    refine ⟨_, rfl, _, rfl, a, _, _, _, rfl, rfl, hS, at_nat (j := k.toNat) (by omega) (id_at hk), q _ (hb _ ?_)⟩
    exact List.mem_of_getElem? (d_at hk)
  · exact q 0 (by decide)
end
abbrev sDigits : Stmt := top 22
theorem scDigits : FnScope ["_law_number", "_law_reach", "_law_many", "_law_found", "_law_mixed", "_law_k"] ["_law_number", "_law_reach", "_law_many"] (defScope sDigits) := ⟨rfl, rfl, rfl, by decide +kernel, rfl, by decide +kernel, by decide +kernel⟩
def spDigits (_ : PySem.W.Frag) : Sp := fun vs H Q _ => ∃ (x r : Int) (n : Nat), vs = [.int x, .int r, .int (n : Nat)] ∧ 0 < r ∧ r.natAbs < 2 ^ 210 ∧ n ≤ 8 ∧
  ∀ H' p (ds : List Int), Same H H' → H p = none → H' p = some (.lst (ds.map V.int)) → ds.length = n → (∀ d ∈ ds, 1 ≤ d) → Q (.ref p) H'
section
variable {P : Program} {w : World} {K : PySem.W.Frag} {mg : Str → Option Value} {base : Heap} {f : Addr} {fd : FuncData}
theorem ok_digits (gb : Gb mg) (D : Df K mg "_law_digits" sDigits ["_law_number", "_law_reach", "_law_many"] f fd) : FnOk P w K mg base CX0 1 f fd ["_law_number", "_law_reach", "_law_many"] (spDigits K) := by
  refine D.F.ok scDigits (fun vs H Q E h => ?_) (fun cdv A outer s H vs Q E hr h => ?_)
  · obtain ⟨x, r, n, rfl, _⟩ := h
    rfl
  obtain ⟨x, r, n, rfl, hr0, hr1, h8, q⟩ := h
  refine ⟨_, pss_cons (ps_set (i := 3) scDigits.nd rfl (.inl rfl) (pe_lst pa_nil))
    (pss_cons (ps_set (i := 4) scDigits.nd rfl (.inl rfl) (pe_op op_mod (pe_op op_mul (pe_op op_add (pv 0) (pv 1)) pe_int) (pe_op op_add (pe_op op_pow pe_int pe_int) pe_int)))
    (pss_cons (ps_for PassesOwn.never rfl (pi_range1 (by rfl) gb.range (pa_cons (pv 2) pa_nil)) (pg_name (i := 5) scDigits.nd rfl (.inl rfl))
      (pss_cons (ps_if (pt_cmpR op_eq (pv 0) pe_int (nomark _))
        (pss_cons (ps_set (i := 4) scDigits.nd rfl (.inl rfl) (pe_op op_mod (pe_op op_mulX (pe_op op_add (pe_op op_add (pv 4) (pe_op op_mul pe_int (pv 5))) pe_int) (pe_op op_add (pv 4) pe_int)) (pe_op op_add (pe_op op_pow pe_int pe_int) pe_int)))
        (pss_one (ps_set (i := 0) scDigits.nd rfl (.inl rfl) (pe_op op_mod (pe_op op_mulX (pv 4) (pv 4)) (pe_op op_add (pe_op op_pow pe_int pe_int) pe_int))))) pss_nil)
      (pss_cons (ps_expr (pe_bm PySem.F.plainAttrs_list PySem.F.slot_list_append PySem.F.type_list_append mt_append (pv 3) (pa_cons (pe_op op_add pe_int (pe_op op_mod (pv 0) (pv 1))) pa_nil)))
      (pss_one (ps_set (i := 0) scDigits.nd rfl (.inl rfl) (pe_op op_fdivW (pv 0) (pv 1)))))))
    (pss_one (ps_ret (pv 3))))), ?_⟩
  have hp60 : (0 : Int) < 10 ^ (60 : Int).toNat + 7 := by decide +kernel
  have hp64 : (0 : Int) < 10 ^ (64 : Int).toNat + 13 := by decide +kernel
  have hb60 : (10 : Int) ^ (60 : Int).toNat + 7 < 2 ^ 200 := by decide +kernel
  refine ⟨(by show 0 ≤ sizeLine; decide), fun p np => ?_⟩
  have s0 := same_new np (.lst [])
  refine ⟨_, rfl, _, rfl, _, _, rfl, rfl, _, _, rfl, rfl, .inr ⟨by decide, by decide⟩, _, _, rfl, rfl, ⟨by decide, by decide, by decide⟩, _, _, rfl, rfl, _, _, rfl, rfl, hp60, ?_⟩
  have m0 := Int.emod_nonneg ((x + r) * 48271) (Int.ne_of_gt hp60)
  have m1 := Int.emod_lt_of_pos ((x + r) * 48271) hp60
  refine ⟨_, rfl, _, rfl, by omega, by omega, for_range (Pv := fun i σ H' => Same H H' ∧ ∃ (y mx : Int) (y5 : Option V) (ds : List Int), σ = [some (.int y), some (.int r), some (.int (n : Nat)), some (.ref p), some (.int mx), y5] ∧ 0 ≤ mx ∧ mx < 2 ^ 200 ∧
      H' p = some (.lst (ds.map V.int)) ∧ ds.length = i ∧ ∀ d ∈ ds, 1 ≤ d) ⟨s0, x, _, none, [], rfl, m0, Int.lt_trans m1 hb60, upd_same, rfl, fun d hd => nomatch hd⟩ (fun i σ H' hi hP => ?_) (fun σ H' hP => ?_)⟩
  · obtain ⟨sm, y, mx, y5, ds, rfl, x0, x1, ep, hd, h1⟩ := hP
    have ei : (0 : Int) + (i : Int) = (i : Int) := by omega
    rw [ei]
    refine ⟨_, rfl, rfl, _, rfl, ?_⟩
    have hlt : (ds.map V.int).length < sizeLine := by
      rw [id_len]
      exact small1000 (by omega)
    refine ite2 (fun c => ?_) (fun c => ?_)
    · -- the number begun anew
      have hb1 : (mx + 11 * (i : Int) + 5).natAbs < 2 ^ 201 := by
        have : i ≤ 8 := by omega
        omega
      have hb2 : (mx + 3).natAbs < 2 ^ 201 := by omega
      refine ⟨_, rfl, _, rfl, _, _, rfl, rfl, .inl ⟨by decide, by decide⟩, _, _, rfl, rfl, _, _, rfl, rfl, _, rfl, _, _, rfl, rfl, _, _, rfl, rfl, mulx_ok hb1 hb2 (by decide), _, _, rfl, rfl, ⟨by decide, by decide, by decide⟩, _, _, rfl, rfl, _, _, rfl, rfl, hp60, ?_⟩
      have z0 := Int.emod_nonneg ((mx + 11 * (i : Int) + 5) * (mx + 3)) (Int.ne_of_gt hp60)
      have z1 := Int.lt_trans (Int.emod_lt_of_pos ((mx + 11 * (i : Int) + 5) * (mx + 3)) hp60) hb60
      have hna : ∀ t : Int, 0 ≤ t → t < 2 ^ 200 → t.natAbs < 2 ^ 200 := fun t h1 h2 => by omega
      have hb3 := hna _ z0 z1
      refine ⟨_, rfl, _, rfl, _, _, rfl, rfl, mulx_ok hb3 hb3 (by decide), _, _, rfl, rfl, ⟨by decide, by decide, by decide⟩, _, _, rfl, rfl, _, _, rfl, rfl, hp64, ?_⟩
      have r0 := fun y' : Int => Int.emod_nonneg y' (Int.ne_of_gt hr0)
      refine ⟨_, rfl, .inl ⟨rfl, _, SqL.of ep⟩, _, rfl, _, rfl, _, _, rfl, rfl, hr0, _, _, rfl, rfl, p, _, _, rfl, rfl, ep, hlt, ?_⟩
      refine ⟨_, rfl, _, rfl, _, _, rfl, rfl, wide_div hr0 hr1 (by decide) (by decide), s_up sm np _, _, _, some (.int (i : Nat)), ds ++ [1 + ((mx + 11 * (i : Int) + 5) * (mx + 3) % (10 ^ (60 : Int).toNat + 7)) * ((mx + 11 * (i : Int) + 5) * (mx + 3) % (10 ^ (60 : Int).toNat + 7)) % (10 ^ (64 : Int).toNat + 13) % r], rfl, z0, z1, ?_, ?_, ?_⟩
      · rw [upd_same, List.map_append]
        rfl
      · rw [List.length_append, hd]
        rfl
      · intro d hd'
        rcases List.mem_append.mp hd' with h | h
        · exact h1 d h
        · rw [List.mem_singleton.mp h]
          exact Int.le_add_of_nonneg_right (r0 _)
    · have r0 := Int.emod_nonneg y (Int.ne_of_gt hr0)
      refine ⟨_, rfl, .inl ⟨rfl, _, SqL.of ep⟩, _, rfl, _, rfl, _, _, rfl, rfl, hr0, _, _, rfl, rfl, p, _, _, rfl, rfl, ep, hlt, ?_⟩
      refine ⟨_, rfl, _, rfl, _, _, rfl, rfl, wide_div hr0 hr1 (by decide) (by decide), s_up sm np _, _, mx, some (.int (i : Nat)), ds ++ [1 + y % r], rfl, x0, x1, ?_, ?_, ?_⟩
      · rw [upd_same, List.map_append]
        rfl
      · rw [List.length_append, hd]
        rfl
      · intro d hd'
        rcases List.mem_append.mp hd' with h | h
        · exact h1 d h
        · rw [List.mem_singleton.mp h]
          omega
  · obtain ⟨sm, y, mx, y5, ds, rfl, x0, x1, ep, hd, h1⟩ := hP
    exact ⟨_, rfl, q _ p ds sm np ep (by omega) h1⟩
end
end CC

/-! ## D8 -/
namespace CC
open PySem L2
/-! ### the law's gaps -/
theorem mid {t u : TS} {D : Ends} {σ : St} {H : Hp} (Mid : St → Hp → Prop) (h1 : ∀ nx' : St → Hp → Prop, (∀ σ H, Mid σ H → nx' σ H) → t { D with nx := nx' } σ H) (h2 : ∀ σ H, Mid σ H → u D σ H) : tSeq t u D σ H := h1 (u D) h2
theorem pick8 {j : Int} (h0 : 0 ≤ j) (h8 : j < 8) : ∃ h : Nat, 1 ≤ h ∧ h ≤ 4 ∧ atI [V.int 1, .int 2, .int 2, .int 3, .int 3, .int 4, .int 2, .int 3] j = some (.int (h : Nat)) := by
  have q : j = 0 ∨ j = 1 ∨ j = 2 ∨ j = 3 ∨ j = 4 ∨ j = 5 ∨ j = 6 ∨ j = 7 := by omega
  rcases q with rfl | rfl | rfl | rfl | rfl | rfl | rfl | rfl
  · exact ⟨1, by decide, by decide, rfl⟩
  · exact ⟨2, by decide, by decide, rfl⟩
  · exact ⟨2, by decide, by decide, rfl⟩
  · exact ⟨3, by decide, by decide, rfl⟩
  · exact ⟨3, by decide, by decide, rfl⟩
  · exact ⟨4, by decide, by decide, rfl⟩
  · exact ⟨2, by decide, by decide, rfl⟩
  · exact ⟨3, by decide, by decide, rfl⟩
theorem pick5 {j x : Int} (hx : 1 ≤ x) (h0 : 0 ≤ j) (h5 : j < 5) : ∃ m : Int, 1 ≤ m ∧ atI [V.int 1, .int 2, .int 3, .int 9, .int x] j = some (.int m) := by
  have q : j = 0 ∨ j = 1 ∨ j = 2 ∨ j = 3 ∨ j = 4 := by omega
  rcases q with rfl | rfl | rfl | rfl | rfl
  · exact ⟨1, by decide, rfl⟩
  · exact ⟨2, by decide, rfl⟩
  · exact ⟨3, by decide, rfl⟩
  · exact ⟨9, by decide, rfl⟩
  · exact ⟨x, hx, rfl⟩
theorem bits7 {z : Int} (h : Builtin.Int.intBits z ≤ 1048576) : CMulX z (982451653 ^ (7 : Int).toNat) := by
  have e : Builtin.Int.intBits (982451653 ^ (7 : Int).toNat) ≤ 1000 := by decide +kernel
  unfold CMulX
  omega
theorem bits6 {z : Int} (h : Builtin.Int.intBits z ≤ 1048576) : CMulX z (982451653 ^ (6 : Int).toNat) := by
  have e : Builtin.Int.intBits (982451653 ^ (6 : Int).toNat) ≤ 1000 := by decide +kernel
  unfold CMulX
  omega
def one7 (z : Int) : Int := 1 + z * 982451653 ^ (7 : Int).toNat % (10 ^ (60 : Int).toNat - 99)
theorem pos60 : (0 : Int) < 10 ^ (60 : Int).toNat - 99 := by decide +kernel
theorem one7_pos (z : Int) : 1 ≤ one7 z := by
  have h := Int.emod_nonneg (z * 982451653 ^ (7 : Int).toNat) (Int.ne_of_gt pos60)
  unfold one7
  omega
abbrev sGaps : Stmt := top 23
abbrev nGaps : List Str := ["_law_script", "_law_at", "_law_head", "_law_one", "_law_other_here", "_law_half", "_law_most", "_law_found", "_law_more", "_law_spot", "_law_k"]
theorem scGaps : FnScope nGaps ["_law_script", "_law_at"] (defScope sGaps) := ⟨rfl, rfl, rfl, by decide +kernel, rfl, by decide +kernel, by decide +kernel⟩
def spGaps (K : PySem.W.Frag) : Sp := fun vs H Q _ => ∃ (a : Addr), vs = [.ref a, .int 0] ∧ Scr K H a ∧
  ∀ H' p ns, Same H H' → H p = none → H' p = some (.lst (ns.map V.int)) → Good ns → Q (.ref p) H'
section
variable {P : Program} {w : World} {K : PySem.W.Frag} {mg : Str → Option Value} {base : Heap} {f fN fD : Addr} {fd dN dD : FuncData}
theorem ok_gaps (gb : Gb mg) (D : Df K mg "_law_gaps" sGaps ["_law_script", "_law_at"] f fd) (DN : Df K mg "_law_nth" sNth ["_law_script", "_law_k"] fN dN) (DD : Df K mg "_law_digits" sDigits ["_law_number", "_law_reach", "_law_many"] fD dD) :
    FnOk P w K mg base CX0 2 f fd ["_law_script", "_law_at"] (spGaps K) := by
  have GN : FnOk P w K mg base CX0 1 fN dN _ (spNth K) := ok_nth gb DN
  have GD : FnOk P w K mg base CX0 1 fD dD _ (spDigits K) := ok_digits gb DD
  refine D.F.ok scGaps (fun vs H Q E h => ?_) (fun cdv A outer s H vs Q E hr h => ?_)
  · obtain ⟨a, rfl, _⟩ := h
    rfl
  obtain ⟨a, rfl, hS, q⟩ := h
  refine ⟨_, pss_cons (ps_set (i := 2) scGaps.nd rfl (.inl rfl) (pe_call GN hr (by rfl) DN.g DN.F.kp DN.b .nil pass0 (pa_cons (pv 0) (pa_cons (pv 1) pa_nil))))
    (pss_cons (ps_if (pt_cmpR op_eq (pe_op op_mod (pe_op op_fdiv (pv 2) pe_int) pe_int) pe_int (nomark _))
      (pss_cons (ps_set (i := 3) scGaps.nd rfl (.inl rfl) (pe_op op_add pe_int (pe_op op_mod (pe_op op_mulX (pe_call GN hr (by rfl) DN.g DN.F.kp DN.b .nil pass0 (pa_cons (pv 0) (pa_cons (pe_op op_add (pv 1) pe_int) pa_nil))) (pe_op op_pow pe_int pe_int)) (pe_op op_sub (pe_op op_pow pe_int pe_int) pe_int))))
      (pss_cons (ps_set (i := 4) scGaps.nd rfl (.inl rfl) (pe_op op_add pe_int (pe_op op_mod (pe_op op_mulX (pe_call GN hr (by rfl) DN.g DN.F.kp DN.b .nil pass0 (pa_cons (pv 0) (pa_cons (pe_op op_add (pv 1) pe_int) pa_nil))) (pe_op op_pow pe_int pe_int)) (pe_op op_sub (pe_op op_pow pe_int pe_int) pe_int))))
      (pss_one (ps_ret (pe_ix ix_list (pe_lst (pa_cons (pe_lst (pa_cons (pv 3) (pa_cons (pv 3) pa_nil))) (pa_cons (pe_lst (pa_cons (pv 3) (pa_cons (pv 4) (pa_cons (pv 4) (pa_cons (pv 3) pa_nil))))) pa_nil)))
        (pe_op op_mod (pe_op op_fdiv (pv 2) pe_int) pe_int) (fun _ _ => rfl)))))) pss_nil)
    (pss_cons (ps_set (i := 5) scGaps.nd rfl (.inl rfl) (pe_ix ix_list (pe_lst (pa_cons pe_int (pa_cons pe_int (pa_cons pe_int (pa_cons pe_int (pa_cons pe_int (pa_cons pe_int (pa_cons pe_int (pa_cons pe_int pa_nil))))))))) (pe_op op_mod (pv 2) pe_int) (fun _ _ => rfl)))
    (pss_cons (ps_set (i := 6) scGaps.nd rfl (.inr rfl) (pe_ix ix_list (pe_lst (pa_cons pe_int (pa_cons pe_int (pa_cons pe_int (pa_cons pe_int (pa_cons (pe_op op_pow pe_int pe_int) pa_nil)))))) (pe_op op_mod (pe_op op_fdiv (pv 2) pe_int) pe_int) (fun _ _ => rfl)))
    (pss_cons (ps_set (i := 7) scGaps.nd rfl (.inr rfl) (pe_lc (own := [("_law_k", 10)]) (g := gName 10) (tt := tYes) rfl scGaps.nd (pi_range1 (by rfl) gb.range (pa_cons (pe_op op_mul pe_int (pv 5)) pa_nil)) (blkOk_by (N := nGaps) (sc := defScope sGaps) (by decide +kernel))
        (fun _ _ _ _ _ => pg_name (i := 10) scGaps.nd rfl (Or.inl rfl)) (fun _ _ _ _ _ => pts_nil)
        (fun _ _ _ _ _ => pe_op op_add pe_int (pe_op op_mod (pe_op op_mulX (pe_call GN hr (by rfl) DN.g DN.F.kp DN.b .nil pass0 (pa_cons (pv 0) (pa_cons (pe_op op_add (pe_op op_add (pv 1) pe_int) (pv 10)) pa_nil))) (pe_op op_pow pe_int pe_int)) (pv 6)))))
    (pss_cons (ps_if (pt_cmpR op_eq (pe_op op_mod (pe_op op_fdiv (pv 2) pe_int) pe_int) pe_int (nomark _))
      (pss_cons (ps_set (i := 5) scGaps.nd rfl (.inl rfl) (pe_op op_add pe_int (pe_op op_mod (pe_call GN hr (by rfl) DN.g DN.F.kp DN.b .nil pass0 (pa_cons (pv 0) (pa_cons (pe_op op_add (pv 1) pe_int) pa_nil))) pe_int)))
      (pss_one (ps_set (i := 7) scGaps.nd rfl (.inr rfl) (pe_call GD hr (by rfl) DD.g DD.F.kp DD.b .nil pass0 (pa_cons (pe_call GN hr (by rfl) DN.g DN.F.kp DN.b .nil pass0 (pa_cons (pv 0) (pa_cons (pe_op op_add (pv 1) pe_int) pa_nil)))
        (pa_cons (pe_op op_add pe_int (pe_op op_mod (pe_call GN hr (by rfl) DN.g DN.F.kp DN.b .nil pass0 (pa_cons (pv 0) (pa_cons (pe_op op_add (pv 1) pe_int) pa_nil))) (pe_op op_sub (pe_op op_pow pe_int pe_int) pe_int)))
        (pa_cons (pe_op op_mul pe_int (pv 5)) pa_nil))))))) pss_nil)
    (pss_cons (ps_set (i := 8) scGaps.nd rfl (.inl rfl) (pe_callB (cr_sum rfl) (by rfl) gb.sum (by decide +kernel) (pa_cons
        (pe_lc (own := [("_law_k", 10)]) (g := gName 10) (tt := tYes) (te := tOp (rI0 fun i j => .int (i - j)) (tOp (rIxL K) (tVar 7) (tOp (rI CMul fun i j => .int (i * j)) (tC (.int 2)) (tVar 10))) (tOp (rIxL K) (tVar 7) (tOp (rI0 fun i j => .int (i + j)) (tOp (rI CMul fun i j => .int (i * j)) (tC (.int 2)) (tVar 10)) (tC (.int 1)))))
        rfl scGaps.nd (pi_range1 (by rfl) gb.range (pa_cons (pv 5) pa_nil)) (blkOk_by (N := nGaps) (sc := defScope sGaps) (by decide +kernel))
        (fun _ _ _ _ _ => pg_name (i := 10) scGaps.nd rfl (Or.inl rfl)) (fun _ _ _ _ _ => pts_nil)
        (fun _ _ _ _ _ => pe_op op_sub (pe_ix ix_list (pv 7) (pe_op op_mul pe_int (pv 10)) (fun _ _ => rfl)) (pe_ix ix_list (pv 7) (pe_op op_add (pe_op op_mul pe_int (pv 10)) pe_int) (fun _ _ => rfl)))) pa_nil)))
    (pss_cons (ps_set (i := 9) scGaps.nd rfl (.inl rfl) (pe_op op_mul (pe_op op_mod (pe_op op_fdiv (pv 2) pe_int) (pv 5)) pe_int))
    (pss_cons (ps_if (pt_cmpR op_lt (pv 8) pe_int (nomark _))
      (pss_one (ps_asg (pe_op op_sub (pe_ix ix_list (pv 7) (pv 9) (fun _ _ => rfl)) (pv 8)) (pg_sub (pv 7) (pv 9) set_list)))
      (pss_one (ps_asg (pe_op op_add (pe_ix ix_list (pv 7) (pe_op op_add (pv 9) pe_int) (fun _ _ => rfl)) (pv 8)) (pg_sub (pv 7) (pe_op op_add (pv 9) pe_int) set_list))))
    (pss_cons (ps_if (pt_cmpR op_ge (pe_callB (cr_max rfl) (by rfl) gb.max (by decide +kernel) (pa_cons (pv 7) pa_nil)) (pe_op op_pow pe_int pe_int) (nomark _))
      (pss_one (ps_ret (pe_lst (pa_cons (pe_callB (cr_min rfl) (by rfl) gb.min (by decide +kernel) (pa_cons (pv 7) pa_nil)) (pa_cons (pe_callB (cr_min rfl) (by rfl) gb.min (by decide +kernel) (pa_cons (pv 7) pa_nil)) pa_nil))))) pss_nil)
    (pss_one (ps_ret (pv 7)))))))))))), ?_⟩
  refine ⟨_, rfl, _, rfl, a, 0, rfl, hS, Int.le_refl 0, fun hd _ => ?_⟩
  refine ⟨_, rfl, _, _, rfl, rfl, ⟨by decide, by decide⟩, _, _, rfl, rfl, (by show (0 : Int) < 8; decide), rfl, _, rfl, ?_⟩
  refine ite2 (fun _ => ?_) (fun _ => ?_)
  · -- two or four gaps, alike by twos
    refine ⟨_, rfl, _, rfl, _, _, rfl, rfl, a, _, rfl, hS, (by show (0 : Int) ≤ 0 + 1; decide), fun z1 b1 => ?_⟩
    refine ⟨_, _, rfl, rfl, ⟨by decide, by decide, by decide⟩, _, _, rfl, rfl, bits7 b1, _, _, rfl, rfl, ⟨by decide, by decide, by decide⟩, _, _, rfl, rfl, _, _, rfl, rfl, pos60, _, _, rfl, rfl, ?_⟩
    refine ⟨_, rfl, _, rfl, _, _, rfl, rfl, a, _, rfl, hS, (by show (0 : Int) ≤ 0 + 2; decide), fun z2 b2 => ?_⟩
    refine ⟨_, _, rfl, rfl, ⟨by decide, by decide, by decide⟩, _, _, rfl, rfl, bits7 b2, _, _, rfl, rfl, ⟨by decide, by decide, by decide⟩, _, _, rfl, rfl, _, _, rfl, rfl, pos60, _, _, rfl, rfl, ?_⟩
    refine ⟨_, rfl, _, rfl, (by show 2 ≤ sizeLine; decide), fun p1 n1 => ?_⟩
    have s1 := same_new n1 (.lst [V.int (one7 z1), V.int (one7 z1)])
    refine ⟨_, rfl, _, rfl, _, rfl, _, rfl, (by show 4 ≤ sizeLine; decide), fun p2 n2 => ?_⟩
    have s2 := s_nw s1 n2 (.lst [V.int (one7 z1), V.int (one7 z2), V.int (one7 z2), V.int (one7 z1)])
    refine ⟨(by show 2 ≤ sizeLine; decide), fun p3 n3 => ?_⟩
    have s3 := s_nw s2 n3 (.lst [V.ref p1, V.ref p2])
    have e1 : (upd (upd (upd H p1 (.lst [V.int (one7 z1), V.int (one7 z1)])) p2 (.lst [V.int (one7 z1), V.int (one7 z2), V.int (one7 z2), V.int (one7 z1)])) p3 (.lst [V.ref p1, V.ref p2])) p1 = some (.lst ([one7 z1, one7 z1].map V.int)) := by
      have h12 : p1 ≠ p2 := ne_of_none upd_same n2
      rw [upd_ne (ne_of_none (by rw [upd_ne h12]; exact upd_same) n3), upd_ne h12, upd_same]
      rfl
    have e2 : (upd (upd (upd H p1 (.lst [V.int (one7 z1), V.int (one7 z1)])) p2 (.lst [V.int (one7 z1), V.int (one7 z2), V.int (one7 z2), V.int (one7 z1)])) p3 (.lst [V.ref p1, V.ref p2])) p2 = some (.lst ([one7 z1, one7 z2, one7 z2, one7 z1].map V.int)) := by
      rw [upd_ne (ne_of_none upd_same n3), upd_same]
      rfl
    refine ⟨_, rfl, _, _, rfl, rfl, ⟨by decide, by decide⟩, _, _, rfl, rfl, (by show (0 : Int) < 2; decide), ?_⟩
    have hj : hd / 5120 % 2 = 0 ∨ hd / 5120 % 2 = 1 := by omega
    rcases hj with e | e
    · refine ⟨p3, _, _, .ref p1, rfl, rfl, SqL.of upd_same, (by show atI [V.ref p1, V.ref p2] (hd / 5120 % 2) = _; rw [e]; rfl), ?_⟩
      exact q _ p1 _ s3 n1 e1 (good_two (one7_pos z1))
    · refine ⟨p3, _, _, .ref p2, rfl, rfl, SqL.of upd_same, (by show atI [V.ref p1, V.ref p2] (hd / 5120 % 2) = _; rw [e]; rfl), ?_⟩
      exact q _ p2 _ s3 (s1.free n2) e2 (good_four (one7_pos z1) (one7_pos z2))
  -- the half, the most
  have s8 : (8 : Nat) ≤ sizeLine := by decide
  have s5 : (5 : Nat) ≤ sizeLine := by decide
  refine ⟨s8, fun p1 n1 => ?_⟩
  obtain ⟨h, h1, h4, eh⟩ := pick8 (Int.emod_nonneg hd (show (8 : Int) ≠ 0 by decide)) (Int.emod_lt_of_pos hd (show (0 : Int) < 8 by decide))
  refine ⟨_, rfl, _, _, rfl, rfl, (by show (0 : Int) < 8; decide), p1, _, _, _, rfl, rfl, SqL.of upd_same, eh, ?_⟩
  have sm1 := same_new n1 (.lst [V.int 1, .int 2, .int 2, .int 3, .int 3, .int 4, .int 2, .int 3])
  refine ⟨_, _, rfl, rfl, ⟨by decide, by decide, by decide⟩, s5, fun p2 n2 => ?_⟩
  obtain ⟨m, hm, em⟩ := pick5 (x := 10 ^ (59 : Int).toNat) (by decide +kernel) (Int.emod_nonneg (hd / 8) (show (5 : Int) ≠ 0 by decide)) (Int.emod_lt_of_pos (hd / 8) (show (0 : Int) < 5 by decide))
  refine ⟨_, rfl, _, _, rfl, rfl, ⟨by decide, by decide⟩, _, _, rfl, rfl, (by show (0 : Int) < 5; decide), p2, _, _, _, rfl, rfl, SqL.of upd_same, em, ?_⟩
  have sm2 := s_nw sm1 n2 (.lst [V.int 1, .int 2, .int 3, .int 9, .int (10 ^ (59 : Int).toNat)])
  generalize hH2 : upd (upd H p1 _) p2 _ = H2 at *
  clear hH2 eh em n1 n2 sm1
  -- the gaps, drawn
  refine ⟨_, rfl, _, _, rfl, rfl, .inl ⟨by decide, by decide⟩, _, rfl, by omega, by omega, fun p n3 => lc_range (fun i H' => ∃ ds : List Int, Same H2 H' ∧ H' p = some (.lst (ds.map V.int)) ∧ ds.length = i ∧ ∀ d ∈ ds, 1 ≤ d)
    ⟨[], same_new n3 _, upd_same, rfl, fun d hd' => nomatch hd'⟩ (fun i H' hi hP => ?_) (fun H' hP => ?_)⟩
  · obtain ⟨ds, sm3, ep, hl, h1f⟩ := hP
    have hlt : (ds.map V.int).length < sizeLine := by
      rw [id_len]
      exact small1000 (by omega)
    refine ⟨rfl, _, rfl, _, rfl, _, _, rfl, rfl, _, rfl, _, _, rfl, rfl, a, _, rfl, hS.same (sm2.trans sm3), (by show (0 : Int) ≤ 0 + 1 + (0 + (i : Int)); omega), fun z bz => ?_⟩
    have r0 := Int.emod_nonneg (z * 982451653 ^ (6 : Int).toNat) (show m ≠ 0 by omega)
    refine ⟨_, _, rfl, rfl, ⟨by decide, by decide, by decide⟩, _, _, rfl, rfl, bits6 bz, _, rfl, _, _, rfl, rfl, (by show 0 < m; omega), _, _, rfl, rfl, _, ep, hlt, ds ++ [1 + z * 982451653 ^ (6 : Int).toNat % m], s_up sm3 n3 _, ?_, ?_, ?_⟩
    · rw [upd_same, List.map_append]
      rfl
    · rw [List.length_append, hl]
      rfl
    · intro d hd'
      rcases List.mem_append.mp hd' with h | h
      · exact h1f d h
      · rw [List.mem_singleton.mp h]
        omega
  obtain ⟨fs, sm3, ep, hl, h1f⟩ := hP
  dsimp only [gName]
  refine mid (fun σ H' => ∃ (h' : Nat) (fs : List Int) (p' : Addr), 1 ≤ h' ∧ h' ≤ 4 ∧ σ = [some (.ref a), some (.int 0), some (.int hd), none, none, some (.int (h' : Nat)), some (.int m), some (.ref p'), none, none, none] ∧ Same H H' ∧ H p' = none ∧
    H' p' = some (.lst (fs.map V.int)) ∧ fs.length = 2 * h' ∧ ∀ d ∈ fs, 1 ≤ d) (fun nx' hnx => ?_) (fun σ H3 hM => ?_)
  · refine ⟨_, rfl, _, _, rfl, rfl, ⟨by decide, by decide⟩, _, _, rfl, rfl, (by show (0 : Int) < 2; decide), rfl, _, rfl, ?_⟩
    refine ite2 (fun _ => ?_) (fun _ => ?_)
    · have hS3 := hS.same (sm2.trans sm3)
      refine ⟨_, rfl, _, rfl, _, _, rfl, rfl, a, _, rfl, hS3, (by show (0 : Int) ≤ 0 + 3; decide), fun z1 _ => ?_⟩
      refine ⟨_, _, rfl, rfl, (by show (0 : Int) < 4; decide), _, _, rfl, rfl, ?_⟩
      have q0 := Int.emod_nonneg z1 (show (4 : Int) ≠ 0 by decide)
      have q1 := Int.emod_lt_of_pos z1 (show (0 : Int) < 4 by decide)
      have eh : 1 + z1 % 4 = (((1 + z1 % 4).toNat : Nat) : Int) := by omega
      have eh1 : 1 ≤ (1 + z1 % 4).toNat ∧ (1 + z1 % 4).toNat ≤ 4 := by omega
      refine ⟨_, rfl, _, rfl, _, _, rfl, rfl, a, _, rfl, hS3, (by show (0 : Int) ≤ 0 + 1; decide), fun z2 _ => ?_⟩
      refine ⟨_, rfl, _, rfl, _, _, rfl, rfl, a, _, rfl, hS3, (by show (0 : Int) ≤ 0 + 2; decide), fun z3 _ => ?_⟩
      have w0 : (0 : Int) < 10 ^ (60 : Int).toNat - 1 := by decide +kernel
      have w1 : (10 : Int) ^ (60 : Int).toNat - 1 < 2 ^ 200 := by decide +kernel
      have w2 := Int.emod_nonneg z3 (Int.ne_of_gt w0)
      have w3 := Int.lt_trans (Int.emod_lt_of_pos z3 w0) w1
      have w4 : ∀ t : Int, 0 ≤ t → t < 2 ^ 200 → 0 < 1 + t ∧ (1 + t).natAbs < 2 ^ 210 := fun t h1 h2 => by omega
      refine ⟨_, _, rfl, rfl, ⟨by decide, by decide, by decide⟩, _, _, rfl, rfl, _, _, rfl, rfl, w0, _, _, rfl, rfl, _, rfl, _, _, rfl, rfl, .inl ⟨by decide, by decide⟩, ?_⟩
      refine ⟨z2, 1 + z3 % (10 ^ (60 : Int).toNat - 1), 2 * (1 + z1 % 4).toNat, ?_, (w4 _ w2 w3).1, (w4 _ w2 w3).2, by omega, fun H4 p4 ds s4 n4 g4 l4 d4 => ?_⟩
      · show [V.int z2, V.int (1 + z3 % (10 ^ (60 : Int).toNat - 1)), V.int (2 * (1 + z1 % 4))] = _
        have e2 : 2 * (1 + z1 % 4) = ((2 * (1 + z1 % 4).toNat : Nat) : Int) := by omega
        rw [e2]
      · refine hnx _ _ ⟨(1 + z1 % 4).toNat, ds, p4, eh1.1, eh1.2, ?_, (sm2.trans sm3).trans s4, (sm2.trans sm3).free n4, g4, l4, d4⟩
        rw [← eh]
        rfl
    · exact hnx _ _ ⟨h, fs, p, h1, h4, rfl, sm2.trans sm3, sm2.free n3, ep, by omega, h1f⟩
  clear ep hl h1f fs sm3 n3 sm2
  obtain ⟨h', fs, p', k1, k4, rfl, sm, np, ep, hl, h1f⟩ := hM
  -- how much they part
  refine ⟨_, rfl, _, rfl, by omega, by omega, fun p5 n5 => lc_range (fun i H' => Same H3 H' ∧ H' p5 = some (.lst ((dif fs i).map V.int))) ⟨same_new n5 _, upd_same⟩ (fun i H' hi hP => ?_) (fun H' hP => ?_)⟩
  · obtain ⟨s5', e5⟩ := hP
    have hlt : ((dif fs i).map V.int).length < sizeLine := by
      rw [id_len]
      unfold dif
      rw [List.length_map, List.length_range]
      exact small1000 (by omega)
    have ep' := s5' _ _ ep
    refine ⟨rfl, _, rfl, _, rfl, _, _, rfl, rfl, .inl ⟨by decide, by decide⟩, p', _, _, _, rfl, rfl, SqL.of ep', at_nat (j := 2 * i) (by show (2 : Int) * (0 + (i : Int)) = _; omega) (id_at (by omega)), ?_⟩
    refine ⟨_, rfl, _, rfl, _, _, rfl, rfl, .inl ⟨by decide, by decide⟩, _, _, rfl, rfl, p', _, _, _, rfl, rfl, SqL.of ep', at_nat (j := 2 * i + 1) (by show (2 : Int) * (0 + (i : Int)) + 1 = _; omega) (id_at (by omega)), ?_⟩
    refine ⟨_, _, rfl, rfl, _, e5, hlt, s_up s5' n5 _, ?_⟩
    rw [upd_same, dif_step, List.map_append]
    rfl
  obtain ⟨s5', e5⟩ := hP
  have ehn : ((h' : Nat) : Int).toNat = h' := rfl
  rw [ehn] at e5
  have ep' := s5' _ _ ep
  have sm5 := sm.trans s5'
  refine ⟨p5, dif fs h', rfl, SqL.of e5, ?_⟩
  rw [dif_sum hl k1 k4]
  have j0 := Int.emod_nonneg (hd / 40) (show ((h' : Nat) : Int) ≠ 0 by omega)
  have j1 := Int.emod_lt_of_pos (hd / 40) (show (0 : Int) < ((h' : Nat) : Int) by omega)
  refine ⟨_, rfl, _, _, rfl, rfl, ⟨by decide, by decide⟩, _, rfl, _, _, rfl, rfl, (by show (0 : Int) < ((h' : Nat) : Int); omega), _, _, rfl, rfl, .inr ⟨by decide, by decide⟩, ?_⟩
  obtain ⟨j, hj, ej⟩ : ∃ j : Nat, j < h' ∧ hd / 40 % ((h' : Nat) : Int) * 2 = ((2 * j : Nat) : Int) := ⟨(hd / 40 % ((h' : Nat) : Int)).toNat, by omega, by omega⟩
  have ev : (V.int (hd / 40 % ((h' : Nat) : Int) * 2)) = V.int ((2 * j : Nat) : Int) := congrArg V.int ej
  dsimp only [gName]
  refine mid (fun σ H' => ∃ (ns : List Int) (y8 y9 y10 : Option V), σ = [some (.ref a), some (.int 0), some (.int hd), none, none, some (.int (h' : Nat)), some (.int m), some (.ref p'), y8, y9, y10] ∧ Same H H' ∧ H' p' = some (.lst (ns.map V.int)) ∧ Good ns) (fun nx' hnx => ?_) (fun σ H4 hM => ?_)
  · refine ⟨_, rfl, _, _, rfl, rfl, _, rfl, ?_⟩
    have fl : (fs.map V.int).length = 2 * h' := by rw [id_len, hl]
    refine ite2 (fun c => ?_) (fun c => ?_)
    · have c' : alt fs < 0 := of_decide_eq_true c
      refine ⟨_, rfl, _, rfl, p', _, _, _, rfl, rfl, SqL.of ep', at_nat ej (id_at (by omega)), _, rfl, _, _, rfl, rfl, _, rfl, _, rfl, p', _, _, 2 * j, rfl, ev, ep', ix_nat (by omega), ?_⟩
      refine hnx _ _ ⟨fs.set (2 * j) (fs.getD (2 * j) 0 - alt fs), _, _, _, rfl, s_up sm5 np _, ?_, good_lo hl k1 k4 hj h1f c'⟩
      rw [upd_same, List.map_set]
    · have c' : ¬ alt fs < 0 := fun z => c (decide_eq_true z)
      have e1 : hd / 40 % ((h' : Nat) : Int) * 2 + 1 = ((2 * j + 1 : Nat) : Int) := by omega
      have ev1 : (V.int (hd / 40 % ((h' : Nat) : Int) * 2 + 1)) = V.int ((2 * j + 1 : Nat) : Int) := congrArg V.int e1
      refine ⟨_, rfl, _, rfl, _, _, rfl, rfl, p', _, _, _, rfl, rfl, SqL.of ep', at_nat e1 (id_at (by omega)), _, rfl, _, _, rfl, rfl, _, rfl, _, rfl, _, _, rfl, rfl, p', _, _, 2 * j + 1, rfl, ev1, ep', ix_nat (by omega), ?_⟩
      refine hnx _ _ ⟨fs.set (2 * j + 1) (fs.getD (2 * j + 1) 0 + alt fs), _, _, _, rfl, s_up sm5 np _, ?_, good_hi hl k1 k4 hj h1f c'⟩
      rw [upd_same, List.map_set]
  obtain ⟨ns, y8, y9, y10, rfl, s4, e4, g⟩ := hM
  have v := g.ev.le
  refine ⟨_, rfl, p', ns, rfl, SqL.of e4, by omega, fun mx _ _ => ?_⟩
  refine ⟨_, _, rfl, rfl, ⟨by decide, by decide, by decide⟩, _, _, rfl, rfl, _, rfl, ?_⟩
  refine ite2 (fun _ => ?_) (fun _ => ?_)
  · refine ⟨_, rfl, p', ns, rfl, SqL.of e4, by omega, fun m1 i1 l1 => ?_⟩
    refine ⟨_, rfl, p', ns, rfl, SqL.of e4, by omega, fun m2 i2 l2 => ?_⟩
    refine ⟨(by show 2 ≤ sizeLine; decide), fun p6 n6 => ?_⟩
    have em : m2 = m1 := by
      have := l1 m2 i2
      have := l2 m1 i1
      omega
    subst em
    exact q _ p6 [m2, m2] (s_nw s4 n6 _) (s4.free n6) upd_same (good_two (g.pos m2 i1))
  · exact ⟨_, rfl, q _ p' ns s4 np e4 g⟩
end
end CC

/-! ## D9 -/
namespace CC
open PySem L2
/-! ### the law's row of marks -/
abbrev ZT := Addr × LW
/-- wedges as pairs in the heap -/
def rz (Z : List ZT) : List V := Z.map fun z => V.ref z.1
def LZ (H : Hp) (Z : List ZT) : Prop := ∀ z ∈ Z, H z.1 = some (.tup [V.int z.2.1, V.int (z.2.2 : Nat)])
theorem LZ.same {H H' : Hp} {Z : List ZT} (s : Same H H') (h : LZ H Z) : LZ H' Z := fun z hz => s _ _ (h z hz)
theorem rz_len (Z : List ZT) : (rz Z).length = Z.length := List.length_map _
theorem rz_at {Z : List ZT} {k : Nat} (h : k < Z.length) : ∃ z, z ∈ Z ∧ (rz Z)[k]? = some (.ref z.1) ∧ (Z.map fun z => z.2.1).getD k 0 = z.2.1 := by
  refine ⟨Z[k], List.getElem_mem _, ?_, ?_⟩
  · unfold rz
    rw [List.getElem?_map, List.getElem?_eq_getElem h]
    rfl
  · rw [List.getD_eq_getElem?_getD, List.getElem?_map, List.getElem?_eq_getElem h]
    rfl
theorem rz_pk {Z : List ZT} {k : Nat} (h : k < Z.length) : ∃ z, z ∈ Z ∧ atI (rz Z) ((k : Int) - 1) = some (.ref z.1) ∧ (Z.map fun z => z.2.1).getD (pk k Z.length) 0 = z.2.1 := by
  obtain ⟨z, h1, h2, h3⟩ := rz_at (pk_lt h)
  refine ⟨z, h1, at_pk (by rw [rz_len]; exact h) (by rw [rz_len]; exact h2), h3⟩
abbrev sJoined : Stmt := top 24
theorem scJoined : FnScope ["_law_left"] ["_law_left"] (defScope sJoined) := ⟨rfl, rfl, rfl, by decide +kernel, rfl, by decide +kernel, by decide +kernel⟩
def spJoined (_ : PySem.W.Frag) : Sp := fun vs H Q _ => ∃ (a : Addr) (z0 z1 z2 : ZT) (R : List ZT), vs = [.ref a] ∧ H a = some (.lst (rz (z0 :: z1 :: z2 :: R))) ∧ LZ H (z0 :: z1 :: z2 :: R) ∧ R.length ≤ 8 ∧
  ∀ H' p t, Same H H' → H p = none → H' p = some (.lst (rz ((t, (z0.2.1 + z2.2.1 - z1.2.1, z0.2.2)) :: R))) → H' t = some (.tup [V.int (z0.2.1 + z2.2.1 - z1.2.1), V.int (z0.2.2 : Nat)]) → Q (.ref p) H'
section
variable {P : Program} {w : World} {K : PySem.W.Frag} {mg : Str → Option Value} {base : Heap} {f : Addr} {fd : FuncData}
theorem ok_joined (D : Df K mg "_law_joined" sJoined ["_law_left"] f fd) : FnOk P w K mg base CX0 1 f fd ["_law_left"] (spJoined K) := by
  refine D.F.ok scJoined (fun vs H Q E h => ?_) (fun cdv A outer s H vs Q E hr h => ?_)
  · obtain ⟨a, z0, z1, z2, R, rfl, _⟩ := h
    rfl
  obtain ⟨a, z0, z1, z2, R, rfl, hA, hZ, h8, q⟩ := h
  refine ⟨_, pss_one (ps_ret (pe_op op_cat (pe_lst (pa_cons (pe_tup (pa_cons (pe_op op_sub (pe_op op_add
      (pe_ix ix_tup (pe_ix ix_list (pv 0) pe_int (fun _ _ => rfl)) pe_int (fun _ _ => rfl)) (pe_ix ix_tup (pe_ix ix_list (pv 0) pe_int (fun _ _ => rfl)) pe_int (fun _ _ => rfl)))
      (pe_ix ix_tup (pe_ix ix_list (pv 0) pe_int (fun _ _ => rfl)) pe_int (fun _ _ => rfl))) (pa_cons (pe_ix ix_tup (pe_ix ix_list (pv 0) pe_int (fun _ _ => rfl)) pe_int (fun _ _ => rfl)) pa_nil))) pa_nil))
    (pe_slice sl_list (pv 0) (po_some pe_int) po_none))), ?_⟩
  have t0 := SqT.of (K := K) (hZ z0 (by simp))
  have t1 := SqT.of (K := K) (hZ z1 (by simp))
  have t2 := SqT.of (K := K) (hZ z2 (by simp))
  have hS : SqL K H a (rz (z0 :: z1 :: z2 :: R)) := SqL.of hA
  refine ⟨_, rfl, a, _, _, _, rfl, rfl, hS, atI_nat (j := 0) rfl, z0.1, _, _, _, rfl, rfl, t0, atI_nat (j := 0) rfl, ?_⟩
  refine ⟨_, rfl, a, _, _, _, rfl, rfl, hS, atI_nat (j := 2) rfl, z2.1, _, _, _, rfl, rfl, t2, atI_nat (j := 0) rfl, _, _, rfl, rfl, ?_⟩
  refine ⟨_, rfl, a, _, _, _, rfl, rfl, hS, atI_nat (j := 1) rfl, z1.1, _, _, _, rfl, rfl, t1, atI_nat (j := 0) rfl, _, _, rfl, rfl, ?_⟩
  refine ⟨_, rfl, a, _, _, _, rfl, rfl, hS, atI_nat (j := 0) rfl, z0.1, _, _, _, rfl, rfl, t0, atI_nat (j := 1) rfl, (by show 2 ≤ sizeLine; decide), fun t nt => ?_⟩
  have s1 := same_new nt (.tup [V.int (z0.2.1 + z2.2.1 - z1.2.1), V.int (z0.2.2 : Nat)])
  refine ⟨(by show 1 ≤ sizeLine; decide), fun p1 n1 => ?_⟩
  have s2 := s_nw s1 n1 (.lst [V.ref t])
  refine ⟨_, rfl, _, rfl, a, _, rfl, SqL.of (s2 _ _ hA), fun p2 n2 => ?_⟩
  have s3 := s_nw s2 n2 (.lst (cutV (rz (z0 :: z1 :: z2 :: R)) (some 3) none))
  have l4 := cutV_length (rz (z0 :: z1 :: z2 :: R)) (some 3) none
  rw [rz_len] at l4
  simp only [List.length_cons] at l4
  have h12 : p1 ≠ p2 := ne_of_none upd_same n2
  have htp : t ≠ p1 := ne_of_none upd_same n1
  have ht2 : t ≠ p2 := ne_of_none (by rw [upd_ne htp]; exact upd_same) n2
  refine ⟨p1, p2, _, _, rfl, rfl, (by rw [upd_ne h12]; exact upd_same), upd_same, line_ge (by show 1 + _ ≤ 1000; omega), fun p np => ?_⟩
  refine q _ p t (s_nw s3 np _) (s3.free np) ?_ ?_
  · have e3 : cutG (rz (z0 :: z1 :: z2 :: R)) (some 3) none = (rz (z0 :: z1 :: z2 :: R)).drop 3 := cut_from 3
    rw [upd_same, cutV_G, e3]
    rfl
  · rw [upd_ne (ne_of_none (by rw [upd_ne ht2, upd_ne htp]; exact upd_same) np), upd_ne ht2, upd_ne htp, upd_same]
end
abbrev sAm : Stmt := top 25
theorem scAm : FnScope ["_law_left", "_law_found", "_law_k"] ["_law_left"] (defScope sAm) := ⟨rfl, rfl, rfl, by decide +kernel, rfl, by decide +kernel, by decide +kernel⟩
def spAm (_ : PySem.W.Frag) : Sp := fun vs H Q _ => ∃ (a : Addr) (Z : List ZT), vs = [.ref a] ∧ H a = some (.lst (rz Z)) ∧ LZ H Z ∧ Z.length ≤ 8 ∧
  ∀ H' p, Same H H' → H p = none → H' p = some (.lst ((oi (amS (Z.map fun z => z.2.1) Z.length)).map V.int)) → Q (.ref p) H'
section
variable {P : Program} {w : World} {K : PySem.W.Frag} {mg : Str → Option Value} {base : Heap} {f : Addr} {fd : FuncData}
theorem ok_am (gb : Gb mg) (D : Df K mg "_law_amid" sAm ["_law_left"] f fd) : FnOk P w K mg base CX0 1 f fd ["_law_left"] (spAm K) := by
  refine D.F.ok scAm (fun vs H Q E h => ?_) (fun cdv A outer s H vs Q E hr h => ?_)
  · obtain ⟨a, Z, rfl, _⟩ := h
    rfl
  obtain ⟨a, Z, rfl, hA, hZ, h8, q⟩ := h
  refine ⟨_, pss_cons (ps_set (i := 1) scAm.nd rfl (.inl rfl) (pe_lst pa_nil))
    (pss_cons (ps_for PassesOwn.never rfl (pi_range1 (by rfl) gb.range (pa_cons (pe_callB call_len_seq (by rfl) gb.len PySem.boot_len (pa_cons (pv 0) pa_nil)) pa_nil)) (pg_name (i := 2) scAm.nd rfl (.inl rfl))
      (pss_one (ps_if (pt_cmpR op_le (pe_ix ix_tup (pe_ix ix_list (pv 0) (pv 2) (fun _ _ => rfl)) pe_int (fun _ _ => rfl))
          (pe_callB (call_min2 rfl) (by rfl) gb.min (by decide +kernel) (pa_cons (pe_ix ix_tup (pe_ix ix_list (pv 0) (pe_op op_sub (pv 2) pe_int) (fun _ _ => rfl)) pe_int (fun _ _ => rfl))
            (pa_cons (pe_ix ix_tup (pe_ix ix_list (pv 0) (pe_op op_mod (pe_op op_add (pv 2) pe_int) (pe_callB call_len_seq (by rfl) gb.len PySem.boot_len (pa_cons (pv 0) pa_nil))) (fun _ _ => rfl)) pe_int (fun _ _ => rfl)) pa_nil))) (nomark _))
        (pss_one (ps_expr (pe_bm PySem.F.plainAttrs_list PySem.F.slot_list_append PySem.F.type_list_append mt_append (pv 1) (pa_cons (pv 2) pa_nil)))) pss_nil)))
    (pss_one (ps_ret (pv 1)))), ?_⟩
  have hl := rz_len Z
  have hL : (Z.map fun z => z.2.1).length = Z.length := List.length_map _
  refine ⟨(by show 0 ≤ sizeLine; decide), fun p np => ?_⟩
  have s0 := same_new np (.lst [])
  refine ⟨_, rfl, a, _, rfl, .inl (SqL.of (s0 _ _ hA)), _, rfl, by omega, by omega, for_range (Pv := fun i σ H' => Same H H' ∧ H' p = some (.lst ((oi (amS (Z.map fun z => z.2.1) i)).map V.int)) ∧ ∃ y2, σ = [some (.ref a), some (.ref p), y2])
    ⟨s0, upd_same, none, rfl⟩ (fun i σ H' hi hP => ?_) (fun σ H' hP => ?_)⟩
  · obtain ⟨sm, ep, y2, rfl⟩ := hP
    have hi' : i < Z.length := by omega
    have ei : (0 : Int) + (i : Int) = (i : Int) := by omega
    rw [ei]
    have hS : SqL K H' a (rz Z) := SqL.of (sm _ _ hA)
    have hZ' := hZ.same sm
    obtain ⟨z, m1, e1, g1⟩ := rz_at hi'
    obtain ⟨zp, m2, e2, g2⟩ := rz_pk hi'
    obtain ⟨zn, m3, e3, g3⟩ := rz_at (nx_lt hi')
    refine ⟨_, rfl, _, rfl, a, _, _, _, rfl, rfl, hS, at_nat rfl e1, z.1, _, _, _, rfl, rfl, SqT.of (hZ' z m1), atI_nat (j := 0) rfl, ?_⟩
    refine ⟨_, rfl, _, rfl, _, _, rfl, rfl, a, _, _, _, rfl, rfl, hS, e2, zp.1, _, _, _, rfl, rfl, SqT.of (hZ' zp m2), atI_nat (j := 0) rfl, ?_⟩
    refine ⟨_, rfl, _, rfl, _, _, rfl, rfl, _, rfl, a, _, rfl, .inl hS, _, _, rfl, rfl, (by rw [hl]; omega), a, _, _, _, rfl, rfl, hS, at_nat (by rw [hl, nx_int]) e3, zn.1, _, _, _, rfl, rfl, SqT.of (hZ' zn m3), atI_nat (j := 0) rfl, ?_⟩
    refine ⟨_, _, rfl, _, _, rfl, rfl, _, rfl, ?_⟩
    have hc : am1 (Z.map fun z => z.2.1) i = decide (z.2.1 ≤ if zn.2.1 < zp.2.1 then zn.2.1 else zp.2.1) := by
      unfold am1 mn
      rw [hL, g1, g2, g3]
    have hst := amS_step (Z.map fun z => z.2.1) i
    refine ite2 (fun c => ?_) (fun c => ?_)
    · rw [if_pos (hc.trans c)] at hst
      have hlen : (amS (Z.map fun z => z.2.1) i).length ≤ i := by
        unfold amS
        exact Nat.le_trans (List.length_filter_le _ _) (by rw [List.length_range]; exact Nat.le_refl _)
      refine ⟨_, rfl, .inl ⟨rfl, _, SqL.of ep⟩, _, rfl, p, _, _, rfl, rfl, ep, ?_, s_up sm np _, ?_, _, rfl⟩
      · rw [id_len, oi_len]
        exact small1000 (by omega)
      · rw [upd_same, hst]
        unfold oi
        rw [List.map_append, List.map_append]
        rfl
    · rw [if_neg (fun z => c (hc.symm.trans z)), List.append_nil] at hst
      refine ⟨sm, ?_, _, rfl⟩
      rw [hst]
      exact ep
  · obtain ⟨sm, ep, y2, rfl⟩ := hP
    have e : ((rz Z).length : Int).toNat = Z.length := by omega
    rw [e] at ep
    exact ⟨_, rfl, q H' p sm np ep⟩
end
end CC

/-! ## D10 -/
namespace CC
open PySem L2
/-! ### the row of marks, crimp upon crimp -/
def bS (ms : List Bool) : List Str := ms.map fun b => (⟨#[CC.ch b]⟩ : Str)
def bV (ms : List Bool) : List V := (bS ms).map V.str
theorem bS_len (ms : List Bool) : (bS ms).length = ms.length := List.length_map _
theorem bV_len (ms : List Bool) : (bV ms).length = ms.length := by
  unfold bV
  rw [List.length_map, bS_len]
theorem bV_set (ms : List Bool) (i : Nat) (b : Bool) : (bV ms).set i (.str ⟨#[CC.ch b]⟩) = bV (ms.set i b) := by
  unfold bV bS
  rw [List.map_set, List.map_set]
theorem bV_rep (n : Nat) : (List.replicate n [V.str "h"]).flatten = bV (List.replicate n false) := by
  rw [str_h]
  induction n with
  | zero => rfl
  | succ n ih =>
    rw [List.replicate_succ, List.flatten_cons, ih, List.replicate_succ]
    rfl
theorem bS_sum (ms : List Bool) : ((bS ms).map (·.length)).sum = ms.length := by
  induction ms with
  | nil => rfl
  | cons b r ih =>
    show (1 + ((bS r).map (·.length)).sum) = r.length + 1
    rw [ih]
    omega
theorem join_nil : ∀ ms : List Bool, TL.joinL [] ((bS ms).map TL.tl) = ms.map CC.ch
  | [] => rfl
  | [b] => rfl
  | b :: c :: r => by
    have ih := join_nil (c :: r)
    show [CC.ch b] ++ ([] ++ TL.joinL [] ((bS (c :: r)).map TL.tl)) = _
    rw [ih]
    rfl
theorem join_bS (ms : List Bool) : Txt.join ("" : Str) (bS ms) = mS ms := by
  apply TL.ext_tl
  rw [TL.join_eq, TL.tl_join]
  have e : TL.tl ("" : Str) = [] := by decide +kernel
  rw [e]
  exact join_nil ms
theorem hv_at (x : Int) : atI ("hv" : Str).cps.toList (x % 2) = some (CC.ch (decide (x % 2 = 1))) := by
  have q : x % 2 = 0 ∨ x % 2 = 1 := by omega
  rcases q with e | e <;> rw [e] <;> decide +kernel
theorem vh_at (x : Int) : atI ("vh" : Str).cps.toList (x % 2) = some (CC.ch (!decide (x % 2 = 1))) := by
  have q : x % 2 = 0 ∨ x % 2 = 1 := by omega
  rcases q with e | e <;> rw [e] <;> decide +kernel
theorem hv_len : ("hv" : Str).length ≤ sizeLine := by decide +kernel
theorem vh_len : ("vh" : Str).length ≤ sizeLine := by decide +kernel
abbrev sRow : Stmt := top 26
abbrev nRow : List Str := ["_law_gaps_here", "_law_number", "_law_k", "_law_gap", "_law_left", "_law_marks", "_law_some"]
theorem scRow : FnScope nRow ["_law_gaps_here", "_law_number"] (defScope sRow) := ⟨rfl, rfl, rfl, by decide +kernel, rfl, by decide +kernel, by decide +kernel⟩
def spRow (K : PySem.W.Frag) : Sp := fun vs H Q _ => ∃ (a : Addr) (ns : List Int) (x : Int), vs = [.ref a, .int x] ∧ SqL K H a (ns.map V.int) ∧ Good ns ∧
  ∀ H' (ms : List Bool), Same H H' → ms.length = ns.length → F (ns.length / 2 - 1) (ns.zip ms) → Q (.str (mS ms)) H'
/-- what holds while wedges are left -/
def rowW (a : Addr) (ns : List Int) (H : Hp) (f : Nat) (σ : St) (H' : Hp) : Prop := ∃ (pl pm : Addr) (Z : List ZT) (ms : List Bool) (x : Int) (y2 y3 y6 : Option V), f ≤ 3 ∧ σ = [some (.ref a), some (.int x), y2, y3, some (.ref pl), some (.ref pm), y6] ∧
  Same H H' ∧ H pm = none ∧ H' pl = some (.lst (rz Z)) ∧ LZ H' Z ∧ H' pm = some (.lst (bV ms)) ∧ RowI ns (Z.map Prod.snd) ms f ∧ pl ≠ pm
theorem LZ.off {H : Hp} {Z : List ZT} {p : Addr} {xs ys : List V} (h : LZ H Z) (hp : H p = some (.lst xs)) : LZ (upd H p (.lst ys)) Z := fun z hz => by
  have hne : z.1 ≠ p := ne_of (h z hz) hp (by intro e; cases e)
  rw [upd_ne hne]
  exact h z hz
theorem rz_of {Z : List ZT} {i : Nat} {x : V} (h : (rz Z)[i]? = some x) : ∃ z, Z[i]? = some z ∧ x = .ref z.1 := by
  unfold rz at h
  rw [List.getElem?_map] at h
  cases e : Z[i]? with
  | none => rw [e] at h; cases h
  | some z => rw [e] at h; exact ⟨z, rfl, (Option.some.inj h).symm⟩
theorem rz_rt (j : Nat) (Z : List ZT) : rz (rt j Z) = rt j (rz Z) := (rt_map _ j Z).symm
theorem LZ.rt {H : Hp} {Z : List ZT} (j : Nat) (h : LZ H Z) : LZ H (rt j Z) := fun z hz => h z (by
  unfold CC.rt at hz
  rw [List.mem_append, Or.comm, ← List.mem_append, List.take_append_drop] at hz
  exact hz)
section
variable {P : Program} {w : World} {K : PySem.W.Frag} {mg : Str → Option Value} {base : Heap} {f fA fJ : Addr} {fd dA dJ : FuncData}
theorem ok_row (gb : Gb mg) (D : Df K mg "_law_row" sRow ["_law_gaps_here", "_law_number"] f fd) (DA : Df K mg "_law_amid" sAm ["_law_left"] fA dA) (DJ : Df K mg "_law_joined" sJoined ["_law_left"] fJ dJ) :
    FnOk P w K mg base CX0 2 f fd ["_law_gaps_here", "_law_number"] (spRow K) := by
  have GA : FnOk P w K mg base CX0 1 fA dA _ (spAm K) := ok_am gb DA
  have GJ : FnOk P w K mg base CX0 1 fJ dJ _ (spJoined K) := ok_joined DJ
  refine D.F.ok scRow (fun vs H Q E h => ?_) (fun cdv A outer s H vs Q E hr h => ?_)
  · obtain ⟨a, ns, x, rfl, _⟩ := h
    rfl
  obtain ⟨a, ns, x, rfl, hS, g, q⟩ := h
  refine ⟨_, pss_cons (ps_setLc (i := 4) (own := [("_law_k", 2), ("_law_gap", 3)]) (g := gTup K 2 (gCons (gName 2) (gCons (gName 3) gNil))) (tt := tYes) (te := tTup (tCons (tVar 3) (tCons (tVar 2) tNil))) rfl scRow.nd rfl rfl
      (sw_true rfl rfl rfl (by decide +kernel)) (pi_enum (by rfl) gb.enumerate (pa_cons (pv 0) pa_nil)) (blkOk_by (N := nRow) (sc := defScope sRow) (by decide +kernel))
      (fun _ _ _ _ _ => pg_tup rfl (pgs_cons (pg_name (i := 2) scRow.nd rfl (Or.inl rfl) (Or.inr rfl)) (pgs_cons (pg_name (i := 3) scRow.nd rfl (Or.inl rfl) (Or.inr rfl)) pgs_nil)))
      (fun _ _ _ _ _ => pts_nil) (fun _ _ _ _ _ => pe_tup (pa_cons (pv 3) (pa_cons (pv 2) pa_nil))))
    (pss_cons (ps_set (i := 5) scRow.nd rfl (.inl rfl) (pe_op op_rep (pe_lst (pa_cons pe_str pa_nil)) (pe_callB call_len_seq (by rfl) gb.len PySem.boot_len (pa_cons (pv 0) pa_nil))))
    (pss_cons (ps_while PassesOwn.never (pt_cmpR op_gt (pe_callB call_len_seq (by rfl) gb.len PySem.boot_len (pa_cons (pv 4) pa_nil)) pe_int (nomark _))
      (pss_cons (ps_set (i := 6) scRow.nd rfl (.inl rfl) (pe_call GA hr (by rfl) DA.g DA.F.kp DA.b .nil pass0 (pa_cons (pv 4) pa_nil)))
      (pss_cons (ps_set (i := 2) scRow.nd rfl (.inl rfl) (pe_ix ix_list (pv 6) (pe_op op_mod (pe_op op_fdiv (pv 1) pe_int) (pe_callB call_len_seq (by rfl) gb.len PySem.boot_len (pa_cons (pv 6) pa_nil))) (fun _ _ => rfl)))
      (pss_cons (ps_set (i := 4) scRow.nd rfl (.inl rfl) (pe_op op_cat (pe_slice sl_list (pv 4) (po_some (pe_op op_sub (pv 2) pe_int)) po_none) (pe_slice sl_list (pv 4) po_none (po_some (pe_op op_sub (pv 2) pe_int)))))
      (pss_cons (ps_asg (pe_ix ix_str pe_str (pe_op op_mod (pv 1) pe_int) (fun _ _ => rfl)) (pg_sub (pv 5) (pe_ix ix_tup (pe_ix ix_list (pv 4) pe_int (fun _ _ => rfl)) pe_int (fun _ _ => rfl)) set_list))
      (pss_cons (ps_asg (pe_ix ix_str pe_str (pe_op op_mod (pv 1) pe_int) (fun _ _ => rfl)) (pg_sub (pv 5) (pe_ix ix_tup (pe_ix ix_list (pv 4) pe_int (fun _ _ => rfl)) pe_int (fun _ _ => rfl)) set_list))
      (pss_cons (ps_set (i := 4) scRow.nd rfl (.inl rfl) (pe_call GJ hr (by rfl) DJ.g DJ.F.kp DJ.b .nil pass0 (pa_cons (pv 4) pa_nil)))
      (pss_one (ps_set (i := 1) scRow.nd rfl (.inl rfl) (pe_op op_fdiv (pv 1) pe_int))))))))))
    (pss_cons (ps_for PassesOwn.never rfl (pi_list (pv 4)) (pg_tup rfl (pgs_cons (pg_name (i := 3) scRow.nd rfl (.inl rfl)) (pgs_cons (pg_name (i := 2) scRow.nd rfl (.inl rfl)) pgs_nil)))
      (pss_one (ps_asg (pe_ix ix_str pe_str (pe_op op_mod (pv 1) pe_int) (fun _ _ => rfl)) (pg_sub (pv 5) (pv 2) set_list))))
    (pss_one (ps_ret (pe_join pe_str (pv 5))))))), ?_⟩
  have v := g.ev.le
  have hl := id_len ns
  -- the pairs
  refine ⟨_, rfl, a, _, rfl, hS, fun p np => lc_it (walk_enum (xs := ns.map V.int)) (fun i H' => ∃ Z : List ZT, Same H H' ∧ H' p = some (.lst (rz Z)) ∧ LZ H' Z ∧ Z.map Prod.snd = (ns.zip (List.range ns.length)).take i)
    ⟨[], same_new np _, upd_same, (fun z hz => nomatch hz), rfl⟩ (fun i H' _ hP => ?_) (fun i x H2 H3 hi hP hy => ?_) (fun H2 hP => ?_)⟩
  · obtain ⟨Z, sm, _⟩ := hP
    exact sm.seq hS
  · obtain ⟨Z, sm, ep, hZ, eZ⟩ := hP
    obtain ⟨T, x1, x2, rfl, nT, rfl, e1, e2⟩ := hy
    obtain ⟨z, hz, rfl⟩ := iv_of e2
    have e1' : x1 = V.int (i : Nat) := (Option.some.inj e1).symm
    subst e1'
    have hi' : i < ns.length := by omega
    refine ⟨T, _, rfl, SqT.of upd_same, rfl, _, _, rfl, _, _, rfl, rfl, rfl, _, rfl, _, rfl, (by show 2 ≤ sizeLine; decide), fun t nt => ?_⟩
    have s1 := same_new nT (.tup [V.int (i : Nat), V.int z])
    have s2 := s_nw s1 nt (.tup [V.int z, V.int (i : Nat)])
    have ep2 := s2 _ _ ep
    have hlen : Z.length = i := by
      have := congrArg List.length eZ
      rw [List.length_map, List.length_take, List.length_zip, List.length_range] at this
      omega
    have hZ2 : LZ (upd (upd H2 T (.tup [V.int (i : Nat), V.int z])) t (.tup [V.int z, V.int (i : Nat)])) (Z ++ [(t, (z, i))]) := fun y hy => by
      rcases List.mem_append.mp hy with h | h
      · exact s2 _ _ (hZ y h)
      · rw [List.mem_singleton.mp h, upd_same]
    refine ⟨_, ep2, by rw [rz_len]; exact small1000 (by omega), Z ++ [(t, (z, i))], s_up (sm.trans s2) np _, ?_, hZ2.off ep2, ?_⟩
    · rw [upd_same]
      unfold rz
      rw [List.map_append]
      rfl
    · have hzi : (ns.zip (List.range ns.length))[i]? = some (z, i) := by
        rw [List.getElem?_zip_eq_some]
        exact ⟨hz, List.getElem?_range hi'⟩
      rw [take_one hzi, List.map_append, eZ]
      rfl
  obtain ⟨Z, sm, ep, hZ, eZ⟩ := hP
  have eZ' : Z.map Prod.snd = ns.zip (List.range ns.length) := by
    rw [eZ]
    exact List.take_of_length_le (by rw [List.length_zip, List.length_range, hl]; omega)
  -- the marks
  refine ⟨(by show 1 ≤ sizeLine; decide), fun p1 n1 => ?_⟩
  have s1 := s_nw sm n1 (.lst [V.str "h"])
  refine ⟨_, rfl, a, _, rfl, .inl (s1.seq hS), p1, _, _, rfl, rfl, upd_same, by omega, by omega, ?_, fun pm nm => ?_⟩
  · rw [hl]
    show 1 * (ns.length : Int).toNat ≤ sizeLine
    exact line_ge (by omega)
  have e5 : ((ns.map V.int).length : Int).toNat = ns.length := by
    rw [hl]
    rfl
  rw [e5, bV_rep]
  have s2 := s_nw s1 nm (.lst (bV (List.replicate ns.length false)))
  have k1 := (same_new n1 (.lst [V.str "h"])).trans (same_new nm (.lst (bV (List.replicate ns.length false))))
  refine ⟨rowW a ns H, ⟨ns.length / 2 - 1, p, pm, Z, List.replicate ns.length false, x, _, _, _, by omega, rfl, s2, s1.free nm, k1 _ _ ep, hZ.same k1, upd_same, by rw [eZ']; exact row_start g, ne_of_none ((same_new n1 (.lst [V.str "h"])) _ _ ep) nm⟩, ?_⟩
  clear k1 s2 s1 nm n1 eZ' eZ hZ ep sm np
  intro m σ H1 hW
  obtain ⟨pl, pm, Z, ms, x, y2, y3, y6, hf, rfl, sm, nm, el, hZ, em, rI, npl⟩ := hW
  have hZl : Z.length = 2 * m + 2 := by
    have := rI.len
    rw [List.length_map] at this
    exact this
  refine ⟨_, rfl, pl, _, rfl, .inl (SqL.of el), _, _, rfl, rfl, _, rfl, ?_⟩
  rw [rz_len]
  refine ite2 (fun c => ?_) (fun c => ?_)
  · -- one crimp
    have c' : (2 : Int) < (Z.length : Nat) := of_decide_eq_true c
    match m, hf, rI, hZl with
    | 0, _, _, hZl => omega
    | m + 1, hf, rI, hZl =>
    refine ⟨rowW a ns H m, fun σ' H' h => ⟨m, Nat.lt_succ_self m, h⟩, ?_⟩
    refine ⟨_, rfl, pl, Z, rfl, el, hZ, by omega, fun H2 p2 s2 n2 g2 => ?_⟩
    have hL : (Z.map fun z => z.2.1).length = Z.length := List.length_map _
    have hpos : 0 < (amS (Z.map fun z => z.2.1) Z.length).length := by
      have := amS_pos (L := Z.map fun z => z.2.1) (by rw [hL]; omega)
      rw [hL] at this
      exact this
    have ho : ((oi (amS (Z.map fun z => z.2.1) Z.length)).map V.int).length = (amS (Z.map fun z => z.2.1) Z.length).length := by rw [id_len, oi_len]
    have t0 := Int.emod_nonneg (x / 2) (show (((amS (Z.map fun z => z.2.1) Z.length).length : Nat) : Int) ≠ 0 by omega)
    have t1 := Int.emod_lt_of_pos (x / 2) (show (0 : Int) < ((amS (Z.map fun z => z.2.1) Z.length).length : Nat) by omega)
    obtain ⟨k, hk, ek⟩ : ∃ k, k ∈ amS (Z.map fun z => z.2.1) Z.length ∧ atI ((oi (amS (Z.map fun z => z.2.1) Z.length)).map V.int) (x / 2 % (((amS (Z.map fun z => z.2.1) Z.length).length : Nat) : Int)) = some (.int (k : Nat)) := by
      have hlt : (x / 2 % (((amS (Z.map fun z => z.2.1) Z.length).length : Nat) : Int)).toNat < (amS (Z.map fun z => z.2.1) Z.length).length := by omega
      refine ⟨_, List.getElem_mem hlt, at_nat (j := (x / 2 % (((amS (Z.map fun z => z.2.1) Z.length).length : Nat) : Int)).toNat) (by omega) (iv_at (oi_at (List.getElem?_eq_getElem hlt)))⟩
    have hk2 := List.mem_filter.mp hk
    have hkn : k < Z.length := List.mem_range.mp hk2.1
    have hcond := (am1_iff (L := Z.map fun z => z.2.1) (k := k) (by rw [hL]; exact hkn) (by rw [hL]; omega)).mp hk2.2
    refine ⟨_, rfl, _, rfl, _, _, rfl, rfl, ⟨by decide, by decide⟩, _, rfl, p2, _, rfl, .inl (SqL.of g2), _, _, rfl, rfl, (by rw [ho]; omega), p2, _, _, _, rfl, rfl, SqL.of g2, (by rw [ho]; exact ek), ?_⟩
    dsimp only [tSeq, tAsg, gName]
    refine rd_rot (i := 4) (ik := 2) (k := k) (xs := rz Z) rfl rfl (SqL.of (s2 _ _ el)) (by rw [rz_len]; omega) (by rw [rz_len]; exact hkn) fun H3 p3 s3 n3 g3 => ?_
    rw [rz_len, ← rz_rt] at g3
    rw [hL] at hcond
    have hZ3 := ((hZ.same s2).same s3).rt (pk k Z.length)
    obtain ⟨z0, z1, z2, z3, R, eR⟩ : ∃ z0 z1 z2 z3 R, rt (pk k Z.length) Z = z0 :: z1 :: z2 :: z3 :: R := by
      have hl4 := rt_len (pk k Z.length) Z
      match rt (pk k Z.length) Z, hl4 with
      | z0 :: z1 :: z2 :: z3 :: R, _ => exact ⟨z0, z1, z2, z3, R, rfl⟩
      | [], h => simp at h; omega
      | [_], h => simp at h; omega
      | [_, _], h => simp at h; omega
      | [_, _, _], h => simp at h; omega
    rw [eR] at g3 hZ3
    have hcond2 : z1.2.1 ≤ z0.2.1 ∧ z1.2.1 ≤ z2.2.1 := by
      rw [rt_map, eR] at hcond
      exact hcond
    have eP : rt (pk k Z.length) (Z.map Prod.snd) = z0.2 :: z1.2 :: z2.2 :: (z3 :: R).map Prod.snd := by
      rw [rt_map, eR]
      rfl
    have rJ := rI.step eP hcond2.1 hcond2.2 (decide (x % 2 = 1))
    have hRl : R.length ≤ 6 := by
      have h1 := congrArg List.length eR
      rw [rt_len] at h1
      simp only [List.length_cons] at h1
      omega
    have hmem1 : z1.2 ∈ Z.map Prod.snd := by
      have h1 : z1 ∈ rt (pk k Z.length) Z := by rw [eR]; simp
      unfold rt at h1
      rw [List.mem_append, Or.comm, ← List.mem_append, List.take_append_drop] at h1
      exact List.mem_map_of_mem h1
    have hmem2 : z2.2 ∈ Z.map Prod.snd := by
      have h1 : z2 ∈ rt (pk k Z.length) Z := by rw [eR]; simp
      unfold rt at h1
      rw [List.mem_append, Or.comm, ← List.mem_append, List.take_append_drop] at h1
      exact List.mem_map_of_mem h1
    have w1 := rI.ix _ hmem1
    have w2 := rI.ix _ hmem2
    have ml := rI.ml
    have em3 := s3 _ _ (s2 _ _ em)
    have npm : p3 ≠ pm := (ne_of_none (s2 _ _ em) n3).symm
    have sm3 := (sm.trans s2).trans s3
    -- the two marks
    refine ⟨_, rfl, _, _, rfl, rfl, (by show (0 : Int) < 2; decide), _, _, _, rfl, rfl, hv_len, hv_at x, _, rfl, _, rfl, p3, _, _, _, rfl, rfl, SqL.of g3, atI_nat (j := 1) rfl, z1.1, _, _, _, rfl, rfl, SqT.of (hZ3 z1 (by simp)), atI_nat (j := 1) rfl,
      pm, _, _, z1.2.2, rfl, rfl, em3, ix_nat (by rw [bV_len, ml]; exact w1), ?_⟩
    have sm4 := s_up sm3 nm (.lst ((bV ms).set z1.2.2 (.str ⟨#[CC.ch (decide (x % 2 = 1))]⟩)))
    have hZ4 := hZ3.off (ys := (bV ms).set z1.2.2 (.str ⟨#[CC.ch (decide (x % 2 = 1))]⟩)) em3
    have g4 : (upd H3 pm (.lst ((bV ms).set z1.2.2 (.str ⟨#[CC.ch (decide (x % 2 = 1))]⟩)))) p3 = some (.lst (rz (z0 :: z1 :: z2 :: z3 :: R))) := by
      rw [upd_ne npm]
      exact g3
    refine ⟨_, rfl, _, _, rfl, rfl, (by show (0 : Int) < 2; decide), _, _, _, rfl, rfl, vh_len, vh_at x, _, rfl, _, rfl, p3, _, _, _, rfl, rfl, SqL.of g4, atI_nat (j := 2) rfl, z2.1, _, _, _, rfl, rfl, SqT.of (hZ4 z2 (by simp)), atI_nat (j := 1) rfl,
      pm, _, _, z2.2.2, rfl, rfl, upd_same, ix_nat (by rw [List.length_set, bV_len, ml]; exact w2), ?_⟩
    rw [bV_set, bV_set]
    rw [bV_set] at sm4 hZ4 g4
    have sm5 := s_up sm4 nm (.lst (bV ((ms.set z1.2.2 (decide (x % 2 = 1))).set z2.2.2 (!decide (x % 2 = 1)))))
    have hZ5 := hZ4.off (ys := bV ((ms.set z1.2.2 (decide (x % 2 = 1))).set z2.2.2 (!decide (x % 2 = 1)))) upd_same
    refine ⟨_, rfl, p3, z0, z1, z2, z3 :: R, rfl, (by rw [upd_ne npm]; exact g4), hZ5, by rw [List.length_cons]; omega, fun H6 p6 t6 s6 n6 g6 e6 => ?_⟩
    refine ⟨_, rfl, _, _, rfl, rfl, ⟨by decide, by decide⟩, ?_⟩
    refine ⟨p6, pm, _, _, _, _, _, _, by omega, rfl, sm5.trans s6, nm, g6, fun z hz => ?_, s6 _ _ upd_same, rJ, (ne_of_none upd_same n6).symm⟩
    rcases List.mem_cons.mp hz with h | h
    · rw [h]
      exact e6
    · exact s6 _ _ (hZ5 z (List.mem_cons_of_mem _ (List.mem_cons_of_mem _ (List.mem_cons_of_mem _ h))))
  · -- the last two
    have c' : ¬ (2 : Int) < (Z.length : Nat) := fun z => c (decide_eq_true z)
    have hm0 : m = 0 := by omega
    subst hm0
    obtain ⟨z0, z1, rfl⟩ := len2 (show Z.length = 2 by omega)
    have ml := rI.ml
    refine ⟨_, rfl, pl, rfl, ⟨_, SqL.of el⟩, for_list (xs := rz [z0, z1]) (fun i σ H' => ∃ y2 y3, σ = [some (.ref a), some (.int x), y2, y3, some (.ref pl), some (.ref pm), y6] ∧ Same H H' ∧ H' pl = some (.lst (rz [z0, z1])) ∧ LZ H' [z0, z1] ∧
      H' pm = some (.lst (bV (([z0, z1].take i).foldl (fun m z => m.set z.2.2 (decide (x % 2 = 1))) ms)))) ⟨_, _, rfl, sm, el, hZ, em⟩ (fun i σ H' _ hP => ?_) (fun i u σ H' hu hP => ?_) (fun σ H' hP => ?_)⟩
    · obtain ⟨_, _, _, _, e, _⟩ := hP
      exact SqL.of e
    · obtain ⟨y2, y3, rfl, sm', el', hZ', em'⟩ := hP
      obtain ⟨z, hz, rfl⟩ := rz_of hu
      have zm := List.mem_of_getElem? hz
      have wz := rI.ix z.2 (List.mem_map_of_mem zm)
      have hfl : ∀ (l : List ZT) (m : List Bool), (l.foldl (fun m z => m.set z.2.2 (decide (x % 2 = 1))) m).length = m.length := fun l => by
        induction l with
        | nil => exact fun _ => rfl
        | cons y r ih => exact fun m => (ih _).trans List.length_set
      refine ⟨z.1, _, rfl, SqT.of (hZ' z zm), rfl, _, _, rfl, _, _, rfl, rfl, ?_⟩
      refine ⟨_, rfl, _, _, rfl, rfl, (by show (0 : Int) < 2; decide), _, _, _, rfl, rfl, hv_len, hv_at x, _, rfl, _, rfl, pm, _, _, z.2.2, rfl, rfl, em', ix_nat (by rw [bV_len, hfl, ml]; exact wz), _, _, rfl, s_up sm' nm _, ?_, hZ'.off em', ?_⟩
      · rw [upd_ne npl]
        exact el'
      · rw [upd_same, bV_set, take_one hz, List.foldl_append]
        rfl
    · obtain ⟨y2, y3, rfl, sm', el', hZ', em'⟩ := hP
      have hR := rI.fin (q0 := z0.2) (q1 := z1.2) (decide (x % 2 = 1))
      have em2 : H' pm = some (.lst (bV ((ms.set z0.2.2 (decide (x % 2 = 1))).set z1.2.2 (decide (x % 2 = 1))))) := em'
      refine ⟨⟨_, rfl⟩, _, rfl, _, pm, bS ((ms.set z0.2.2 (decide (x % 2 = 1))).set z1.2.2 (decide (x % 2 = 1))), rfl, rfl, .inl (SqL.of em2), ?_, ?_⟩
      · rw [bS_sum, bS_len, hR.1]
        have e : ("" : Str).length = 0 := by decide +kernel
        rw [e]
        omega
      · rw [join_bS]
        exact q H' _ sm' hR.1 hR.2
end
end CC

/-! ## D11 -/
namespace CC
open PySem L2
/-! ### each mark the other one -/
abbrev sOther : Stmt := top 27
theorem scOther : FnScope ["_law_row_here", "_law_mark"] ["_law_row_here"] (defScope sOther) := ⟨rfl, rfl, rfl, by decide +kernel, rfl, by decide +kernel, by decide +kernel⟩
def spOther (_ : PySem.W.Frag) : Sp := fun vs H Q _ => ∃ ms : List Bool, vs = [.str (mS ms)] ∧ ms.length ≤ 8 ∧ ∀ H', Same H H' → Q (.str (mS (ms.map (!·)))) H'
/-- the table of the two marks -/
def swK : List (Key × V) := [(Sum.inr "h", V.str "v"), (Sum.inr "v", V.str "h")]
theorem sw_at (b : Bool) : valV (mergeK [] swK) (Sum.inr (⟨#[CC.ch b]⟩ : Str)) = some (V.str ⟨#[CC.ch (!b)]⟩) := by
  cases b <;> decide +kernel
section
variable {P : Program} {w : World} {K : PySem.W.Frag} {mg : Str → Option Value} {base : Heap} {f : Addr} {fd : FuncData}
theorem ok_other (gb : Gb mg) (D : Df K mg "_law_other" sOther ["_law_row_here"] f fd) : FnOk P w K mg base CX0 1 f fd ["_law_row_here"] (spOther K) := by
  refine D.F.ok scOther (fun vs H Q E h => ?_) (fun cdv A outer s H vs Q E hr h => ?_)
  · obtain ⟨ms, rfl, _⟩ := h
    rfl
  obtain ⟨ms, rfl, h8, q⟩ := h
  refine ⟨_, pss_one (ps_ret (pe_join pe_str (pe_lc (own := [("_law_mark", 1)]) (g := gName 1) (tt := tYes) rfl scOther.nd (pi_str (pv 0)) (blkOk_by (N := ["_law_row_here", "_law_mark"]) (sc := defScope sOther) (by decide +kernel))
    (fun _ _ _ _ _ => pg_name (i := 1) scOther.nd rfl (Or.inl rfl)) (fun _ _ _ _ _ => pts_nil)
    (fun _ _ _ _ _ => pe_dget (hu_of hr) (pe_disp (pps_cons pe_str pe_str (pps_cons pe_str pe_str pps_nil)) (by rfl) (by rfl) (fun z => by cases z) (by decide)) (pv 1) (fun _ _ => rfl))))), ?_⟩
  refine ⟨⟨_, rfl⟩, _, rfl, mS ms, rfl, fun p np => lc_it (walk_str (z := mS ms)) (fun i H' => Same H H' ∧ H' p = some (.lst (bV ((ms.map (!·)).take i)))) ⟨same_new np _, upd_same⟩ (fun _ _ _ _ => trivial) (fun i x H2 H3 hi hP hy => ?_) (fun H2 hP => ?_)⟩
  · obtain ⟨rfl, c, hc', rfl⟩ := hy
    obtain ⟨sm, ep⟩ := hP
    have es : (mS ms).cps.size = ms.length := mS_len ms
    have hi' : i < ms.length := by omega
    have ec : c = CC.ch (ms.getD i false) := by
      have e := cm_at hi'
      rw [Array.getElem?_toList] at e
      rw [e] at hc'
      exact (Option.some.inj hc').symm
    subst ec
    refine ⟨rfl, fun d nd => ⟨upd_same, swK, rfl, (by decide), ?_⟩⟩
    have s1 := same_new nd (.dK [])
    have s2 : Same H3 (upd (upd H3 d (.dK [])) d (.dK (mergeK [] swK))) := by
      rw [upd_upd]
      exact same_new nd _
    refine ⟨_, rfl, d, _, rfl, (by rw [← sw_at]; exact DGet.k (k := Sum.inr (⟨#[CC.ch (ms.getD i false)]⟩ : Str)) upd_same), _, s2 _ _ ep, ?_, s_up (sm.trans s2) np _, ?_⟩
    · rw [bV_len, List.length_take]
      exact small1000 (by omega)
    · have hz : (ms.map (!·))[i]? = some (!ms.getD i false) := by
        rw [List.getElem?_map, List.getD_eq_getElem?_getD, List.getElem?_eq_getElem hi']
        rfl
      rw [upd_same, take_one hz]
      unfold bV bS
      rw [List.map_append, List.map_append]
      rfl
  · obtain ⟨sm, ep⟩ := hP
    have es : (mS ms).cps.size = (ms.map (!·)).length := by
      rw [List.length_map]
      exact mS_len ms
    rw [es, List.take_length] at ep
    refine ⟨_, p, bS (ms.map (!·)), rfl, rfl, .inl (SqL.of ep), ?_, ?_⟩
    · rw [bS_sum, bS_len, List.length_map]
      have e : ("" : Str).length = 0 := by decide +kernel
      rw [e]
      omega
    · rw [join_bS]
      exact q _ sm
end
end CC

/-! ## D12 -/
namespace CC
open PySem L2
/-! ### the law -/
abbrev sLaw : Stmt := top 28
abbrev nLaw : List Str := ["_law_script", "_law_gaps_here", "_law_marks", "_law_order", "_law_many", "_law_turned", "_law_later", "_law_order_later", "_law_mirror", "_law_order_mirror", "_law_due", "_law_wedge", "_law_k"]
theorem scLaw : FnScope nLaw ["_law_script"] (defScope sLaw) := ⟨rfl, rfl, rfl, by decide +kernel, rfl, by decide +kernel, by decide +kernel⟩
def spLaw (K : PySem.W.Frag) : Sp := fun vs H Q _ => ∃ (a : Addr), vs = [.ref a] ∧ Scr K H a ∧ ∀ H', Q (.bl true) H'
/-- all that the law calls -/
structure Ld (K : PySem.W.Frag) (mg : Str → Option Value) (fN fD fGa fJ fAm fRo fOt fSh fMa fFo fCr fSp fOp : Addr) (dN dD dGa dJ dAm dRo dOt dSh dMa dFo dCr dSp dOp : FuncData) : Prop where
  N : Df K mg "_law_nth" sNth ["_law_script", "_law_k"] fN dN
  D : Df K mg "_law_digits" sDigits ["_law_number", "_law_reach", "_law_many"] fD dD
  Ga : Df K mg "_law_gaps" sGaps ["_law_script", "_law_at"] fGa dGa
  J : Df K mg "_law_joined" sJoined ["_law_left"] fJ dJ
  Am : Df K mg "_law_amid" sAm ["_law_left"] fAm dAm
  Ro : Df K mg "_law_row" sRow ["_law_gaps_here", "_law_number"] fRo dRo
  Ot : Df K mg "_law_other" sOther ["_law_row_here"] fOt dOt
  Sh : Df K mg "shut_at" sShut ["gaps", "order"] fSh dSh
  Ma : Df K mg "marks_of" sMarks ["gaps", "order"] fMa dMa
  Fo : Df K mg "order_for" sFor ["gaps", "marks"] fFo dFo
  Cr : Df K mg "crimp_order" sOrder ["lengths", "wedges", "marks"] fCr dCr
  Sp : Df K mg "crimp_spot" sSpot ["lengths", "marks"] fSp dSp
  Op : Df K mg "crimp_opened" sOpened ["order", "three", "upward"] fOp dOp
theorem oi_rev (o : List Nat) : ((oi o).map V.int).reverse = (oi o.reverse).map V.int := by
  unfold oi
  rw [List.map_reverse, List.map_reverse]
theorem later_int {w n : Nat} (h2 : 2 ≤ n) (hw : w < n) : ((w : Int) - 2) % (n : Int) = (((w + n - 2) % n : Nat) : Int) := by
  have e : ((w + n - 2 : Nat) : Int) = ((w : Int) - 2) + (n : Int) * 1 := by omega
  rw [Int.natCast_emod, e, Int.add_mul_emod_self_left]
theorem oi_take_map {o : List Nat} {g : Nat → Nat} {i u : Nat} (h : o[i]? = some u) : (oi ((o.take (i + 1)).map g)).map V.int = (oi ((o.take i).map g)).map V.int ++ [V.int (g u : Nat)] := by
  rw [take_one h]
  unfold oi
  rw [List.map_append, List.map_append, List.map_append]
  rfl
section
variable {P : Program} {w : World} {K : PySem.W.Frag} {mg : Str → Option Value} {base : Heap} {f : Addr} {fd : FuncData} {fG fS fH fR fA fB : Addr} {dG dS dH dR dA dB : FuncData} {t : Tok}
  {fN fD fGa fJ fAm fRo fOt fSh fMa fFo fCr fSp fOp : Addr} {dN dD dGa dJ dAm dRo dOt dSh dMa dFo dCr dSp dOp : FuncData}
theorem ok_law (W : Wd K mg fG fS fH fR fA fB dG dS dH dR dA dB t) (L : Ld K mg fN fD fGa fJ fAm fRo fOt fSh fMa fFo fCr fSp fOp dN dD dGa dJ dAm dRo dOt dSh dMa dFo dCr dSp dOp) (D : Df K mg "law" sLaw ["_law_script"] f fd) :
    FnOk P w K mg base CX0 7 f fd ["_law_script"] (spLaw K) := by
  have gb := W.gb
  have GN : FnOk P w K mg base CX0 1 fN dN _ (spNth K) := ok_nth gb L.N
  have GGa : FnOk P w K mg base CX0 2 fGa dGa _ (spGaps K) := ok_gaps gb L.Ga L.N L.D
  have GRo : FnOk P w K mg base CX0 2 fRo dRo _ (spRow K) := ok_row gb L.Ro L.Am L.J
  have GOt : FnOk P w K mg base CX0 1 fOt dOt _ (spOther K) := ok_other gb L.Ot
  have GSh : FnOk P w K mg base CX0 3 fSh dSh _ (spShut K) := ok_shut W L.Sh
  have GMa : FnOk P w K mg base CX0 3 fMa dMa _ (spMarks K) := ok_marks W L.Ma
  have GFo : FnOk P w K mg base CX0 6 fFo dFo _ (spFor K) := ok_for gb W.gM L.Fo W.S W.G L.Cr L.Sp L.Op
  refine D.F.ok scLaw (fun vs H Q E h => ?_) (fun cdv A outer s H vs Q E hr h => ?_)
  · obtain ⟨a, rfl, _⟩ := h
    rfl
  obtain ⟨a, rfl, hS, q⟩ := h
  have hr1 := hr.mono (show 1 ≤ 6 by decide)
  have hr2 := hr.mono (show 2 ≤ 6 by decide)
  have hr3 := hr.mono (show 3 ≤ 6 by decide)
  refine ⟨_, pss_cons (ps_set (i := 1) scLaw.nd rfl (.inl rfl) (pe_call GGa hr2 (by rfl) L.Ga.g L.Ga.F.kp L.Ga.b .nil pass0 (pa_cons (pv 0) (pa_cons pe_int pa_nil))))
    (pss_cons (ps_set (i := 2) scLaw.nd rfl (.inr rfl) (pe_call GRo hr2 (by rfl) L.Ro.g L.Ro.F.kp L.Ro.b .nil pass0 (pa_cons (pv 1) (pa_cons (pe_op op_mod (pe_call GN hr1 (by rfl) L.N.g L.N.F.kp L.N.b .nil pass0 (pa_cons (pv 0) (pa_cons pe_int pa_nil))) (pe_op op_pow pe_int pe_int)) pa_nil))))
    (pss_cons (ps_set (i := 3) scLaw.nd rfl (.inl rfl) (pe_call GFo hr (by rfl) L.Fo.g L.Fo.F.kp L.Fo.b .nil pass0 (pa_cons (pv 1) (pa_cons (pv 2) pa_nil))))
    (pss_cons (ps_set (i := 4) scLaw.nd rfl (.inr rfl) (pe_callB call_len_seq (by rfl) gb.len PySem.boot_len (pa_cons (pv 1) pa_nil)))
    (pss_cons (ps_if (PW.pt (pw_or (pt_not (pt_val (pe_callB call_isi (by rfl) gb.isinstance (by decide +kernel) (pa_cons (pv 3) (pa_cons (pe_bltn (v := .ty "list") (by rfl) gb.list PyProof.Rows.boot_list rfl) pa_nil)))))
        (pw_or (pt_cmpR op_notN (pe_call GSh hr3 (by rfl) L.Sh.g L.Sh.F.kp L.Sh.b .nil pass0 (pa_cons (pv 1) (pa_cons (pv 3) pa_nil))) pe_non (nomark _))
        (pw_or1 (pt_cmpR op_ne (pe_call GMa hr3 (by rfl) L.Ma.g L.Ma.F.kp L.Ma.b .nil pass0 (pa_cons (pv 1) (pa_cons (pv 3) pa_nil))) (pv 2) (nomark _)))))) (pss_one ps_never) pss_nil)
    (pss_cons (ps_set (i := 5) scLaw.nd rfl (.inl rfl) (pe_lstRev rfl (by rfl) gb.list (by rfl) gb.reversed (pv 3)))
    (pss_cons (ps_if (PW.pt (pw_or (pt_cmpR op_notN (pe_call GSh hr3 (by rfl) L.Sh.g L.Sh.F.kp L.Sh.b .nil pass0 (pa_cons (pv 1) (pa_cons (pv 5) pa_nil))) pe_non (nomark _))
        (pw_or1 (pt_cmpR op_ne (pe_call GMa hr3 (by rfl) L.Ma.g L.Ma.F.kp L.Ma.b .nil pass0 (pa_cons (pv 1) (pa_cons (pv 5) pa_nil))) (pe_call GOt hr1 (by rfl) L.Ot.g L.Ot.F.kp L.Ot.b .nil pass0 (pa_cons (pv 2) pa_nil)) (nomark _))))) (pss_one ps_never) pss_nil)
    (pss_cons (ps_set (i := 6) scLaw.nd rfl (.inl rfl) (pe_op op_cat (pe_slice sl_list (pv 1) (po_some pe_int) po_none) (pe_slice sl_list (pv 1) po_none (po_some pe_int))))
    (pss_cons (ps_setLc (i := 7) (own := [("_law_wedge", 11)]) (g := gName 11) (tt := tYes) (te := tOp (rI (fun _ j => 0 < j) fun i j => .int (i % j)) (tOp (rI0 fun i j => .int (i - j)) (tVar 11) (tC (.int 2))) (tVar 4)) rfl scLaw.nd rfl rfl
      (sw_true rfl rfl rfl (by decide +kernel)) (pi_list (pv 3)) (blkOk_by (N := nLaw) (sc := defScope sLaw) (by decide +kernel)) (fun _ _ _ _ _ => pg_name (i := 11) scLaw.nd rfl (Or.inl rfl)) (fun _ _ _ _ _ => pts_nil)
      (fun _ _ _ _ _ => pe_op op_mod (pe_op op_sub (pv 11) pe_int) (pv 4)))
    (pss_cons (ps_if (PW.pt (pw_or (pt_cmpR op_notN (pe_call GSh hr3 (by rfl) L.Sh.g L.Sh.F.kp L.Sh.b .nil pass0 (pa_cons (pv 6) (pa_cons (pv 7) pa_nil))) pe_non (nomark _))
        (pw_or1 (pt_cmpR op_ne (pe_call GMa hr3 (by rfl) L.Ma.g L.Ma.F.kp L.Ma.b .nil pass0 (pa_cons (pv 6) (pa_cons (pv 7) pa_nil))) (pe_op op_add_str (pe_slice sl_str (pv 2) (po_some pe_int) po_none) (pe_slice sl_str (pv 2) po_none (po_some pe_int))) (nomark _))))) (pss_one ps_never) pss_nil)
    (pss_cons (ps_set (i := 8) scLaw.nd rfl (.inl rfl) (pe_lstRev rfl (by rfl) gb.list (by rfl) gb.reversed (pv 1)))
    (pss_cons (ps_setLc (i := 9) (own := [("_law_wedge", 11)]) (g := gName 11) (tt := tYes) (te := tOp (rI0 fun i j => .int (i - j)) (tOp (rI0 fun i j => .int (i - j)) (tVar 4) (tC (.int 1))) (tVar 11)) rfl scLaw.nd rfl rfl
      (sw_true rfl rfl rfl (by decide +kernel)) (pi_list (pv 3)) (blkOk_by (N := nLaw) (sc := defScope sLaw) (by decide +kernel)) (fun _ _ _ _ _ => pg_name (i := 11) scLaw.nd rfl (Or.inl rfl)) (fun _ _ _ _ _ => pts_nil)
      (fun _ _ _ _ _ => pe_op op_sub (pe_op op_sub (pv 4) pe_int) (pv 11)))
    (pss_cons (ps_if (pt_cmpR op_notN (pe_call GSh hr3 (by rfl) L.Sh.g L.Sh.F.kp L.Sh.b .nil pass0 (pa_cons (pv 8) (pa_cons (pv 9) pa_nil))) pe_non (nomark _)) (pss_one ps_never) pss_nil)
    (pss_cons (ps_set (i := 10) scLaw.nd rfl (.inl rfl) (pe_call GOt hr1 (by rfl) L.Ot.g L.Ot.F.kp L.Ot.b .nil pass0 (pa_cons (pe_join pe_str
      (pe_lc (own := [("_law_k", 12)]) (g := gName 12) (tt := tYes) (te := tOp rIxS (tVar 2) (tOp (rI (fun _ j => 0 < j) fun i j => .int (i % j)) (tOp (rI0 fun i j => .int (i - j)) (tVar 4) (tVar 12)) (tVar 4))) rfl scLaw.nd
        (pi_range1 (by rfl) gb.range (pa_cons (pv 4) pa_nil)) (blkOk_by (N := nLaw) (sc := defScope sLaw) (by decide +kernel)) (fun _ _ _ _ _ => pg_name (i := 12) scLaw.nd rfl (Or.inl rfl)) (fun _ _ _ _ _ => pts_nil)
        (fun _ _ _ _ _ => pe_ix ix_str (pv 2) (pe_op op_mod (pe_op op_sub (pv 4) (pv 12)) (pv 4)) (fun _ _ => rfl)))) pa_nil)))
    (pss_one (ps_ret (pe_cmpR op_eq (pe_call GMa hr3 (by rfl) L.Ma.g L.Ma.F.kp L.Ma.b .nil pass0 (pa_cons (pv 8) (pa_cons (pv 9) pa_nil))) (pv 10) (nomark _))))))))))))))))), ?_⟩
  -- the gaps, the marks, the order
  have hp9 : (0 : Int) < 10 ^ (9 : Int).toNat := by decide +kernel
  refine ⟨_, rfl, a, rfl, hS, fun H1 p1 ns s1 n1 g1 g => ?_⟩
  have v := g.ev.le
  refine ⟨_, rfl, _, rfl, a, _, rfl, hS.same s1, (by decide), fun z9 _ => ?_⟩
  refine ⟨_, _, rfl, rfl, ⟨by decide, by decide, by decide⟩, _, _, rfl, rfl, hp9, p1, ns, _, rfl, SqL.of g1, g, fun H2 ms s2 hm hF => ?_⟩
  obtain ⟨o, hco, ft⟩ := fits_of g hm hF
  have g2 := s2 _ _ g1
  refine ⟨_, rfl, _, rfl, p1, ns, ms, o, rfl, g2, g, hm, hco, fun H3 p3 s3 n3 g3 => ?_⟩
  have gA := s3 _ _ g2
  have hl := id_len ns
  refine ⟨_, rfl, p1, _, rfl, .inl (SqL.of gA), ?_⟩
  rw [hl]
  -- it is a list, nothing shuts it, it has these marks
  refine ⟨_, rfl, _, _, .type "list", .type "list", true, rfl, .ty "list", .base (.lst g3), kit_ty (by decide +kernel), _, rfl, ?_⟩
  refine iteF ?_
  refine ⟨_, rfl, _, rfl, p1, p3, ns, o, rfl, SqL.of gA, SqL.of g3, g, ft.perm, ft.nb, fun H4 s4 => ?_⟩
  refine ⟨rfl, _, rfl, ?_⟩
  refine iteNS rfl ?_
  refine ⟨_, rfl, _, rfl, p1, p3, ns, o, rfl, SqL.of (s4 _ _ gA), SqL.of (s4 _ _ g3), g, ft.perm, fun H5 s5 => ?_⟩
  rw [ft.mrk]
  refine ⟨_, rfl, rfl, _, rfl, ?_⟩
  refine iteNS rfl ?_
  -- turned about
  have hol := perm_len ft.perm
  have hms : ms.length ≤ 8 := by omega
  refine ⟨_, rfl, p3, _, rfl, SqL.of (s5 _ _ (s4 _ _ g3)), fun p5 n5 => ?_⟩
  rw [oi_rev]
  have s6 := ((s4.trans s5).trans (same_new n5 (.lst ((oi o.reverse).map V.int))))
  have ft2 := ft.turned g
  refine ⟨_, rfl, _, rfl, p1, p5, ns, o.reverse, rfl, SqL.of (s6 _ _ gA), SqL.of upd_same, g, ft2.perm, ft2.nb, fun H6 s7 => ?_⟩
  have g5 := s7 _ _ (show (upd H5 p5 (.lst ((oi o.reverse).map V.int))) p5 = some (.lst ((oi o.reverse).map V.int)) from upd_same)
  have s8 := s6.trans s7
  refine ⟨rfl, _, rfl, ?_⟩
  refine iteNS rfl ?_
  refine ⟨_, rfl, _, rfl, p1, p5, ns, o.reverse, rfl, SqL.of (s8 _ _ gA), SqL.of g5, g, ft2.perm, fun H7 s9 => ?_⟩
  rw [ft2.mrk]
  refine ⟨_, rfl, ms, rfl, hms, fun H8 s10 => ?_⟩
  refine ⟨rfl, _, rfl, ?_⟩
  refine iteNS rfl ?_
  have s11 := (s8.trans s9).trans s10
  clear g5 s10 s9 s8 s7 s6 n5
  -- begun anew, two farther on
  dsimp only [tSeq, tAsg, gName, tNext]
  refine rd_two' (i := 1) (u := 2) (xs := ns.map V.int) rfl (SqL.of (s11 _ _ gA)) (by omega) fun H9 p6 s12 n6 g6 => ?_
  have g6' : H9 p6 = some (.lst ((ns.drop 2 ++ ns.take 2).map V.int)) := by
    rw [g6, List.map_append, List.map_drop, List.map_take]
  clear g6
  have s13 := s11.trans s12
  have ft3 := ft.later g
  have g' := g.later
  have h100 : ∀ l : List Nat, ((oi l).map V.int).length = l.length := fun l => by rw [id_len, oi_len]
  refine ⟨_, rfl, p3, rfl, ⟨_, SqL.of (s13 _ _ g3)⟩, fun p7 n7 => lc_list (xs := (oi o).map V.int) (fun i H' => Same H9 H' ∧ H' p7 = some (.lst ((oi ((o.take i).map fun w => (w + ns.length - 2) % ns.length)).map V.int))) ⟨same_new n7 _, upd_same⟩
    (fun i H' _ hP => SqL.of (hP.1 _ _ (s13 _ _ g3))) (fun i x H' hx hP => ?_) (fun H10 hP => ?_)⟩
  · obtain ⟨z, hz, rfl⟩ := iv_of hx
    obtain ⟨u, hu, rfl⟩ := oi_of hz
    obtain ⟨sm, ep⟩ := hP
    have hun : u < ns.length := (perm_mem ft.perm).mp (List.mem_of_getElem? hu)
    refine ⟨rfl, _, rfl, _, _, rfl, rfl, _, rfl, _, _, rfl, rfl, (by show (0 : Int) < (ns.length : Nat); omega), _, ep, ?_, s_up sm n7 _, ?_⟩
    · rw [h100, List.length_map, List.length_take]
      exact small1000 (by omega)
    · rw [upd_same, oi_take_map hu, ← later_int v.1 hun]
  obtain ⟨sm, ep⟩ := hP
  rw [h100, List.take_length] at ep
  have s14 := s13.trans sm
  have gL := sm _ _ g6'
  refine ⟨_, rfl, _, rfl, p6, p7, ns.drop 2 ++ ns.take 2, _, rfl, SqL.of gL, SqL.of ep, g', ft3.perm, ft3.nb, fun H11 s15 => ?_⟩
  refine ⟨rfl, _, rfl, ?_⟩
  refine iteNS rfl ?_
  refine ⟨_, rfl, _, rfl, p6, p7, ns.drop 2 ++ ns.take 2, _, rfl, SqL.of (s15 _ _ gL), SqL.of (s15 _ _ ep), g', ft3.perm, fun H12 s16 => ?_⟩
  rw [ft3.mrk]
  refine rd_twoS' (i := 2) (u := 2) (M := ms) rfl (by omega) ?_
  refine ⟨rfl, _, rfl, ?_⟩
  refine iteNS rfl ?_
  have s17 := (s14.trans s15).trans s16
  clear s16 s15 gL s14 ep sm n7 g6' s13 s12 s11
  -- from the other end
  refine ⟨_, rfl, p1, _, rfl, SqL.of (s17 _ _ gA), fun p8 n8 => ?_⟩
  have e8 : (ns.map V.int).reverse = ns.reverse.map V.int := (List.map_reverse).symm
  rw [e8]
  have s18 := s_nw s17 n8 (.lst (ns.reverse.map V.int))
  have g8 : (upd H12 p8 (.lst (ns.reverse.map V.int))) p8 = some (.lst (ns.reverse.map V.int)) := upd_same
  have ft4 := ft.mirror g
  have g4 := g.rev
  refine ⟨_, rfl, p3, rfl, ⟨_, SqL.of (s18 _ _ g3)⟩, fun p9 n9 => lc_list (xs := (oi o).map V.int) (fun i H' => Same (upd H12 p8 (.lst (ns.reverse.map V.int))) H' ∧ H' p9 = some (.lst ((oi ((o.take i).map fun w => ns.length - 1 - w)).map V.int))) ⟨same_new n9 _, upd_same⟩
    (fun i H' _ hP => SqL.of (hP.1 _ _ (s18 _ _ g3))) (fun i x H' hx hP => ?_) (fun H13 hP => ?_)⟩
  · obtain ⟨z, hz, rfl⟩ := iv_of hx
    obtain ⟨u, hu, rfl⟩ := oi_of hz
    obtain ⟨sm, ep⟩ := hP
    have hun : u < ns.length := (perm_mem ft.perm).mp (List.mem_of_getElem? hu)
    have eu : ((ns.length : Nat) : Int) - 1 - (u : Int) = ((ns.length - 1 - u : Nat) : Int) := by omega
    refine ⟨rfl, _, rfl, _, _, rfl, rfl, _, rfl, _, _, rfl, rfl, _, ep, ?_, s_up sm n9 _, ?_⟩
    · rw [h100, List.length_map, List.length_take]
      exact small1000 (by omega)
    · rw [upd_same, oi_take_map hu, ← eu]
  obtain ⟨sm, ep⟩ := hP
  rw [h100, List.take_length] at ep
  have gM := sm _ _ g8
  refine ⟨_, rfl, _, rfl, p8, p9, ns.reverse, _, rfl, SqL.of gM, SqL.of ep, g4, ft4.perm, ft4.nb, fun H14 s19 => ?_⟩
  refine ⟨rfl, _, rfl, ?_⟩
  refine iteNS rfl ?_
  have gM2 := s19 _ _ gM
  have ep2 := s19 _ _ ep
  have hz : (mS ms).length ≤ sizeLine := by
    rw [mS_len]
    exact line_ge (by omega)
  -- the marks that are due
  refine ⟨⟨_, rfl⟩, _, rfl, _, rfl, by omega, by omega, fun p10 n10 => lc_range (fun i H' => Same H14 H' ∧ H' p10 = some (.lst (bV ((List.range i).map fun k => ms.getD ((ns.length - k) % ns.length) false)))) ⟨same_new n10 _, upd_same⟩ (fun i H' hi hP => ?_) (fun H15 hP => ?_)⟩
  · obtain ⟨sm', e10⟩ := hP
    have hi' : i < ns.length := by omega
    have hk : (ns.length - i) % ns.length < ns.length := Nat.mod_lt _ (by omega)
    have ek : (((ns.length : Nat) : Int) - (0 + (i : Int))) % ((ns.length : Nat) : Int) = (((ns.length - i) % ns.length : Nat) : Int) := by
      rw [Int.natCast_emod]
      congr 1
      omega
    refine ⟨rfl, _, rfl, _, rfl, _, rfl, _, _, rfl, rfl, _, rfl, _, _, rfl, rfl, (by show (0 : Int) < (ns.length : Nat); omega), _, _, _, rfl, rfl, hz, at_nat ek (cm_at (by omega)), _, e10, ?_, s_up sm' n10 _, ?_⟩
    · rw [bV_len, List.length_map, List.length_range]
      exact small1000 (by omega)
    · rw [upd_same, List.range_succ, List.map_append]
      unfold bV bS
      rw [List.map_append, List.map_append]
      rfl
  obtain ⟨sm', e10⟩ := hP
  have en : ((ns.length : Nat) : Int).toNat = ns.length := rfl
  rw [en] at e10
  refine ⟨_, p10, bS ((List.range ns.length).map fun k => ms.getD ((ns.length - k) % ns.length) false), rfl, rfl, .inl (SqL.of e10), ?_, ?_⟩
  · rw [bS_sum, bS_len, List.length_map, List.length_range]
    have e : ("" : Str).length = 0 := by decide +kernel
    rw [e]
    omega
  rw [join_bS]
  refine ⟨_, rfl, by rw [List.length_map, List.length_range]; exact v.2.1, fun H16 s20 => ?_⟩
  refine ⟨_, rfl, _, rfl, p8, p9, ns.reverse, _, rfl, SqL.of (s20 _ _ (sm' _ _ gM2)), SqL.of (s20 _ _ (sm' _ _ ep2)), g4, ft4.perm, fun H17 s21 => ?_⟩
  rw [ft4.mrk]
  refine ⟨_, rfl, rfl, ?_⟩
  rw [List.map_map]
  have key : ∀ {x y : V}, x = y → Q (.bl (decide (x = y))) H17 := fun h => by
    rw [decide_eq_true h]
    exact q H17
  exact key rfl
end
end CC

namespace CC
open PySem L2
/-! ### what the top has written; the law's own head -/
theorem all_mk {l : PySem.W.OpenLaw} {w : World} {K : PySem.W.Frag} {h : Heap} {mg : Str → Option Value} {fa f7 f8 f9 f10 f11 f12 f13 f14 f16 f17 f18 f19 f21 f22 f23 f24 f25 f26 f27 f28 : Addr} {tM : Tok} (X : K.In h) (G : h.Ns mainGlobals mg) (hfa : mg "law" = some (.ref fa))
    {od7 an7 od8 an8 od9 an9 od10 an10 od11 an11 od12 an12 od13 an13 od14 an14 od16 an16 od17 an17 od18 an18 od19 an19 od21 an21 od22 an22 od23 an23 od24 an24 od25 an25 od26 an26 od27 an27 od28 an28 : Option Addr} {sl7 sl8 sl9 sl10 sl11 sl12 sl13 sl14 sl16 sl17 sl18 sl19 sl21 sl22 sl23 sl24 sl25 sl26 sl27 sl28 : Array (Option Value)}
    {oc7 kV7 dc7 pm7 cd7 ct7 oc8 kV8 dc8 pm8 cd8 ct8 oc9 kV9 dc9 pm9 cd9 ct9 oc10 kV10 dc10 pm10 cd10 ct10 oc11 kV11 dc11 pm11 cd11 ct11 oc12 kV12 dc12 pm12 cd12 ct12 oc13 kV13 dc13 pm13 cd13 ct13 oc14 kV14 dc14 pm14 cd14 ct14 oc16 kV16 dc16 pm16 cd16 ct16 oc17 kV17 dc17 pm17 cd17 ct17 oc18 kV18 dc18 pm18 cd18 ct18 oc19 kV19 dc19 pm19 cd19 ct19 oc21 kV21 dc21 pm21 cd21 ct21 oc22 kV22 dc22 pm22 cd22 ct22 oc23 kV23 dc23 pm23 cd23 ct23 oc24 kV24 dc24 pm24 cd24 ct24 oc25 kV25 dc25 pm25 cd25 ct25 oc26 kV26 dc26 pm26 cd26 ct26 oc27 kV27 dc27 pm27 cd27 ct27 oc28 kV28 dc28 pm28 cd28 ct28 : Value}
    (a7 : PySem.W.nsIn K mainGlobals "is_good" = some (some (.ref f7)))
    (l7 : K.lookup f7 = some ⟨oc7, od7, .func (PySem.W.fnOf "is_good" "is_good" (defArgs sGood) (defBody sGood) (defScope sGood) .none kV7 dc7 pm7 an7 cd7 ct7), sl7⟩)
    (c7 : PySem.W.codeIn K cd7 "is_good" = true) (k7 : PySem.W.keepIn K (.ref f7) = true)
    (a8 : PySem.W.nsIn K mainGlobals "spots_of" = some (some (.ref f8)))
    (l8 : K.lookup f8 = some ⟨oc8, od8, .func (PySem.W.fnOf "spots_of" "spots_of" (defArgs sSpots) (defBody sSpots) (defScope sSpots) .none kV8 dc8 pm8 an8 cd8 ct8), sl8⟩)
    (c8 : PySem.W.codeIn K cd8 "spots_of" = true) (k8 : PySem.W.keepIn K (.ref f8) = true)
    (a9 : PySem.W.nsIn K mainGlobals "wedge_heights" = some (some (.ref f9)))
    (l9 : K.lookup f9 = some ⟨oc9, od9, .func (PySem.W.fnOf "wedge_heights" "wedge_heights" (defArgs sHeights) (defBody sHeights) (defScope sHeights) .none kV9 dc9 pm9 an9 cd9 ct9), sl9⟩)
    (c9 : PySem.W.codeIn K cd9 "wedge_heights" = true) (k9 : PySem.W.keepIn K (.ref f9) = true)
    (a10 : PySem.W.nsIn K mainGlobals "wedge_reaches" = some (some (.ref f10)))
    (l10 : K.lookup f10 = some ⟨oc10, od10, .func (PySem.W.fnOf "wedge_reaches" "wedge_reaches" (defArgs sReaches) (defBody sReaches) (defScope sReaches) .none kV10 dc10 pm10 an10 cd10 ct10), sl10⟩)
    (c10 : PySem.W.codeIn K cd10 "wedge_reaches" = true) (k10 : PySem.W.keepIn K (.ref f10) = true)
    (a11 : PySem.W.nsIn K mainGlobals "wedge_amid" = some (some (.ref f11)))
    (l11 : K.lookup f11 = some ⟨oc11, od11, .func (PySem.W.fnOf "wedge_amid" "wedge_amid" (defArgs sAmid) (defBody sAmid) (defScope sAmid) .none kV11 dc11 pm11 an11 cd11 ct11), sl11⟩)
    (c11 : PySem.W.codeIn K cd11 "wedge_amid" = true) (k11 : PySem.W.keepIn K (.ref f11) = true)
    (a12 : PySem.W.nsIn K mainGlobals "wedge_bars" = some (some (.ref f12)))
    (l12 : K.lookup f12 = some ⟨oc12, od12, .func (PySem.W.fnOf "wedge_bars" "wedge_bars" (defArgs sBars) (defBody sBars) (defScope sBars) .none kV12 dc12 pm12 an12 cd12 ct12), sl12⟩)
    (c12 : PySem.W.codeIn K cd12 "wedge_bars" = true) (k12 : PySem.W.keepIn K (.ref f12) = true)
    (a13 : PySem.W.nsIn K mainGlobals "shut_at" = some (some (.ref f13)))
    (l13 : K.lookup f13 = some ⟨oc13, od13, .func (PySem.W.fnOf "shut_at" "shut_at" (defArgs sShut) (defBody sShut) (defScope sShut) .none kV13 dc13 pm13 an13 cd13 ct13), sl13⟩)
    (c13 : PySem.W.codeIn K cd13 "shut_at" = true) (k13 : PySem.W.keepIn K (.ref f13) = true)
    (a14 : PySem.W.nsIn K mainGlobals "marks_of" = some (some (.ref f14)))
    (l14 : K.lookup f14 = some ⟨oc14, od14, .func (PySem.W.fnOf "marks_of" "marks_of" (defArgs sMarks) (defBody sMarks) (defScope sMarks) .none kV14 dc14 pm14 an14 cd14 ct14), sl14⟩)
    (c14 : PySem.W.codeIn K cd14 "marks_of" = true) (k14 : PySem.W.keepIn K (.ref f14) = true)
    (a16 : PySem.W.nsIn K mainGlobals "crimp_spot" = some (some (.ref f16)))
    (l16 : K.lookup f16 = some ⟨oc16, od16, .func (PySem.W.fnOf "crimp_spot" "crimp_spot" (defArgs sSpot) (defBody sSpot) (defScope sSpot) .none kV16 dc16 pm16 an16 cd16 ct16), sl16⟩)
    (c16 : PySem.W.codeIn K cd16 "crimp_spot" = true) (k16 : PySem.W.keepIn K (.ref f16) = true)
    (a17 : PySem.W.nsIn K mainGlobals "crimp_opened" = some (some (.ref f17)))
    (l17 : K.lookup f17 = some ⟨oc17, od17, .func (PySem.W.fnOf "crimp_opened" "crimp_opened" (defArgs sOpened) (defBody sOpened) (defScope sOpened) .none kV17 dc17 pm17 an17 cd17 ct17), sl17⟩)
    (c17 : PySem.W.codeIn K cd17 "crimp_opened" = true) (k17 : PySem.W.keepIn K (.ref f17) = true)
    (a18 : PySem.W.nsIn K mainGlobals "crimp_order" = some (some (.ref f18)))
    (l18 : K.lookup f18 = some ⟨oc18, od18, .func (PySem.W.fnOf "crimp_order" "crimp_order" (defArgs sOrder) (defBody sOrder) (defScope sOrder) .none kV18 dc18 pm18 an18 cd18 ct18), sl18⟩)
    (c18 : PySem.W.codeIn K cd18 "crimp_order" = true) (k18 : PySem.W.keepIn K (.ref f18) = true)
    (a19 : PySem.W.nsIn K mainGlobals "order_for" = some (some (.ref f19)))
    (l19 : K.lookup f19 = some ⟨oc19, od19, .func (PySem.W.fnOf "order_for" "order_for" (defArgs sFor) (defBody sFor) (defScope sFor) .none kV19 dc19 pm19 an19 cd19 ct19), sl19⟩)
    (c19 : PySem.W.codeIn K cd19 "order_for" = true) (k19 : PySem.W.keepIn K (.ref f19) = true)
    (a21 : PySem.W.nsIn K mainGlobals "_law_nth" = some (some (.ref f21)))
    (l21 : K.lookup f21 = some ⟨oc21, od21, .func (PySem.W.fnOf "_law_nth" "_law_nth" (defArgs sNth) (defBody sNth) (defScope sNth) .none kV21 dc21 pm21 an21 cd21 ct21), sl21⟩)
    (c21 : PySem.W.codeIn K cd21 "_law_nth" = true) (k21 : PySem.W.keepIn K (.ref f21) = true)
    (a22 : PySem.W.nsIn K mainGlobals "_law_digits" = some (some (.ref f22)))
    (l22 : K.lookup f22 = some ⟨oc22, od22, .func (PySem.W.fnOf "_law_digits" "_law_digits" (defArgs sDigits) (defBody sDigits) (defScope sDigits) .none kV22 dc22 pm22 an22 cd22 ct22), sl22⟩)
    (c22 : PySem.W.codeIn K cd22 "_law_digits" = true) (k22 : PySem.W.keepIn K (.ref f22) = true)
    (a23 : PySem.W.nsIn K mainGlobals "_law_gaps" = some (some (.ref f23)))
    (l23 : K.lookup f23 = some ⟨oc23, od23, .func (PySem.W.fnOf "_law_gaps" "_law_gaps" (defArgs sGaps) (defBody sGaps) (defScope sGaps) .none kV23 dc23 pm23 an23 cd23 ct23), sl23⟩)
    (c23 : PySem.W.codeIn K cd23 "_law_gaps" = true) (k23 : PySem.W.keepIn K (.ref f23) = true)
    (a24 : PySem.W.nsIn K mainGlobals "_law_joined" = some (some (.ref f24)))
    (l24 : K.lookup f24 = some ⟨oc24, od24, .func (PySem.W.fnOf "_law_joined" "_law_joined" (defArgs sJoined) (defBody sJoined) (defScope sJoined) .none kV24 dc24 pm24 an24 cd24 ct24), sl24⟩)
    (c24 : PySem.W.codeIn K cd24 "_law_joined" = true) (k24 : PySem.W.keepIn K (.ref f24) = true)
    (a25 : PySem.W.nsIn K mainGlobals "_law_amid" = some (some (.ref f25)))
    (l25 : K.lookup f25 = some ⟨oc25, od25, .func (PySem.W.fnOf "_law_amid" "_law_amid" (defArgs sAm) (defBody sAm) (defScope sAm) .none kV25 dc25 pm25 an25 cd25 ct25), sl25⟩)
    (c25 : PySem.W.codeIn K cd25 "_law_amid" = true) (k25 : PySem.W.keepIn K (.ref f25) = true)
    (a26 : PySem.W.nsIn K mainGlobals "_law_row" = some (some (.ref f26)))
    (l26 : K.lookup f26 = some ⟨oc26, od26, .func (PySem.W.fnOf "_law_row" "_law_row" (defArgs sRow) (defBody sRow) (defScope sRow) .none kV26 dc26 pm26 an26 cd26 ct26), sl26⟩)
    (c26 : PySem.W.codeIn K cd26 "_law_row" = true) (k26 : PySem.W.keepIn K (.ref f26) = true)
    (a27 : PySem.W.nsIn K mainGlobals "_law_other" = some (some (.ref f27)))
    (l27 : K.lookup f27 = some ⟨oc27, od27, .func (PySem.W.fnOf "_law_other" "_law_other" (defArgs sOther) (defBody sOther) (defScope sOther) .none kV27 dc27 pm27 an27 cd27 ct27), sl27⟩)
    (c27 : PySem.W.codeIn K cd27 "_law_other" = true) (k27 : PySem.W.keepIn K (.ref f27) = true)
    (a28 : PySem.W.nsIn K mainGlobals "law" = some (some (.ref f28)))
    (l28 : K.lookup f28 = some ⟨oc28, od28, .func (PySem.W.fnOf "law" "law" (defArgs sLaw) (defBody sLaw) (defScope sLaw) .none kV28 dc28 pm28 an28 cd28 ct28), sl28⟩)
    (c28 : PySem.W.codeIn K cd28 "law" = true) (k28 : PySem.W.keepIn K (.ref f28) = true)
    (aM : PySem.W.nsIn K mainGlobals "MOST_WEDGES" = some (some (.int 8 tM)))
    (z0 : PySem.W.nsIn K mainGlobals "len" = some none)
    (z1 : PySem.W.nsIn K mainGlobals "any" = some none)
    (z2 : PySem.W.nsIn K mainGlobals "sum" = some none)
    (z3 : PySem.W.nsIn K mainGlobals "enumerate" = some none)
    (z4 : PySem.W.nsIn K mainGlobals "sorted" = some none)
    (z5 : PySem.W.nsIn K mainGlobals "list" = some none)
    (z6 : PySem.W.nsIn K mainGlobals "range" = some none)
    (z7 : PySem.W.nsIn K mainGlobals "min" = some none)
    (z8 : PySem.W.nsIn K mainGlobals "max" = some none)
    (z9 : PySem.W.nsIn K mainGlobals "reversed" = some none)
    (z10 : PySem.W.nsIn K mainGlobals "isinstance" = some none)
    : ∃ fd : FuncData, (∀ (s : Shared) (v : Value), BindsTo s fd ⟨[v], []⟩ [("_law_script", v)]) ∧ ∀ base : Heap, K.In base → base.Ns mainGlobals mg → FnOk l.prog w K mg base CX0 7 fa fd ["_law_script"] (spLaw K) := by
  have e := hfa.symm.trans (PySem.W.mg_of X G a28)
  cases e
  have gb : Gb mg := ⟨PySem.W.mg_none_of X G z0, PySem.W.mg_none_of X G z1, PySem.W.mg_none_of X G z2, PySem.W.mg_none_of X G z3, PySem.W.mg_none_of X G z4, PySem.W.mg_none_of X G z5, PySem.W.mg_none_of X G z6, PySem.W.mg_none_of X G z7, PySem.W.mg_none_of X G z8, PySem.W.mg_none_of X G z9, PySem.W.mg_none_of X G z10⟩
  have F7 := fun_mk (st := sGood) l7 c7 k7
  have D7 : Df K mg "is_good" sGood ["gaps"] _ _ := ⟨F7, F7.binds (ps := ["gaps"]) fun _ _ _ _ _ _ us hl => match us, hl with | [_], _ => rfl, PySem.W.mg_of X G a7⟩
  have F8 := fun_mk (st := sSpots) l8 c8 k8
  have D8 : Df K mg "spots_of" sSpots ["gaps"] _ _ := ⟨F8, F8.binds (ps := ["gaps"]) fun _ _ _ _ _ _ us hl => match us, hl with | [_], _ => rfl, PySem.W.mg_of X G a8⟩
  have F9 := fun_mk (st := sHeights) l9 c9 k9
  have D9 : Df K mg "wedge_heights" sHeights ["gaps", "order"] _ _ := ⟨F9, F9.binds (ps := ["gaps", "order"]) fun _ _ _ _ _ _ us hl => match us, hl with | [_, _], _ => rfl, PySem.W.mg_of X G a9⟩
  have F10 := fun_mk (st := sReaches) l10 c10 k10
  have D10 : Df K mg "wedge_reaches" sReaches ["spots", "wedge", "spot"] _ _ := ⟨F10, F10.binds (ps := ["spots", "wedge", "spot"]) fun _ _ _ _ _ _ us hl => match us, hl with | [_, _, _], _ => rfl, PySem.W.mg_of X G a10⟩
  have F11 := fun_mk (st := sAmid) l11 c11 k11
  have D11 : Df K mg "wedge_amid" sAmid ["heights", "wedge", "crease"] _ _ := ⟨F11, F11.binds (ps := ["heights", "wedge", "crease"]) fun _ _ _ _ _ _ us hl => match us, hl with | [_, _, _], _ => rfl, PySem.W.mg_of X G a11⟩
  have F12 := fun_mk (st := sBars) l12 c12 k12
  have D12 : Df K mg "wedge_bars" sBars ["spots", "heights", "crease"] _ _ := ⟨F12, F12.binds (ps := ["spots", "heights", "crease"]) fun _ _ _ _ _ _ us hl => match us, hl with | [_, _, _], _ => rfl, PySem.W.mg_of X G a12⟩
  have F13 := fun_mk (st := sShut) l13 c13 k13
  have D13 : Df K mg "shut_at" sShut ["gaps", "order"] _ _ := ⟨F13, F13.binds (ps := ["gaps", "order"]) fun _ _ _ _ _ _ us hl => match us, hl with | [_, _], _ => rfl, PySem.W.mg_of X G a13⟩
  have F14 := fun_mk (st := sMarks) l14 c14 k14
  have D14 : Df K mg "marks_of" sMarks ["gaps", "order"] _ _ := ⟨F14, F14.binds (ps := ["gaps", "order"]) fun _ _ _ _ _ _ us hl => match us, hl with | [_, _], _ => rfl, PySem.W.mg_of X G a14⟩
  have F16 := fun_mk (st := sSpot) l16 c16 k16
  have D16 : Df K mg "crimp_spot" sSpot ["lengths", "marks"] _ _ := ⟨F16, F16.binds (ps := ["lengths", "marks"]) fun _ _ _ _ _ _ us hl => match us, hl with | [_, _], _ => rfl, PySem.W.mg_of X G a16⟩
  have F17 := fun_mk (st := sOpened) l17 c17 k17
  have D17 : Df K mg "crimp_opened" sOpened ["order", "three", "upward"] _ _ := ⟨F17, F17.binds (ps := ["order", "three", "upward"]) fun _ _ _ _ _ _ us hl => match us, hl with | [_, _, _], _ => rfl, PySem.W.mg_of X G a17⟩
  have F18 := fun_mk (st := sOrder) l18 c18 k18
  have D18 : Df K mg "crimp_order" sOrder ["lengths", "wedges", "marks"] _ _ := ⟨F18, F18.binds (ps := ["lengths", "wedges", "marks"]) fun _ _ _ _ _ _ us hl => match us, hl with | [_, _, _], _ => rfl, PySem.W.mg_of X G a18⟩
  have F19 := fun_mk (st := sFor) l19 c19 k19
  have D19 : Df K mg "order_for" sFor ["gaps", "marks"] _ _ := ⟨F19, F19.binds (ps := ["gaps", "marks"]) fun _ _ _ _ _ _ us hl => match us, hl with | [_, _], _ => rfl, PySem.W.mg_of X G a19⟩
  have F21 := fun_mk (st := sNth) l21 c21 k21
  have D21 : Df K mg "_law_nth" sNth ["_law_script", "_law_k"] _ _ := ⟨F21, F21.binds (ps := ["_law_script", "_law_k"]) fun _ _ _ _ _ _ us hl => match us, hl with | [_, _], _ => rfl, PySem.W.mg_of X G a21⟩
  have F22 := fun_mk (st := sDigits) l22 c22 k22
  have D22 : Df K mg "_law_digits" sDigits ["_law_number", "_law_reach", "_law_many"] _ _ := ⟨F22, F22.binds (ps := ["_law_number", "_law_reach", "_law_many"]) fun _ _ _ _ _ _ us hl => match us, hl with | [_, _, _], _ => rfl, PySem.W.mg_of X G a22⟩
  have F23 := fun_mk (st := sGaps) l23 c23 k23
  have D23 : Df K mg "_law_gaps" sGaps ["_law_script", "_law_at"] _ _ := ⟨F23, F23.binds (ps := ["_law_script", "_law_at"]) fun _ _ _ _ _ _ us hl => match us, hl with | [_, _], _ => rfl, PySem.W.mg_of X G a23⟩
  have F24 := fun_mk (st := sJoined) l24 c24 k24
  have D24 : Df K mg "_law_joined" sJoined ["_law_left"] _ _ := ⟨F24, F24.binds (ps := ["_law_left"]) fun _ _ _ _ _ _ us hl => match us, hl with | [_], _ => rfl, PySem.W.mg_of X G a24⟩
  have F25 := fun_mk (st := sAm) l25 c25 k25
  have D25 : Df K mg "_law_amid" sAm ["_law_left"] _ _ := ⟨F25, F25.binds (ps := ["_law_left"]) fun _ _ _ _ _ _ us hl => match us, hl with | [_], _ => rfl, PySem.W.mg_of X G a25⟩
  have F26 := fun_mk (st := sRow) l26 c26 k26
  have D26 : Df K mg "_law_row" sRow ["_law_gaps_here", "_law_number"] _ _ := ⟨F26, F26.binds (ps := ["_law_gaps_here", "_law_number"]) fun _ _ _ _ _ _ us hl => match us, hl with | [_, _], _ => rfl, PySem.W.mg_of X G a26⟩
  have F27 := fun_mk (st := sOther) l27 c27 k27
  have D27 : Df K mg "_law_other" sOther ["_law_row_here"] _ _ := ⟨F27, F27.binds (ps := ["_law_row_here"]) fun _ _ _ _ _ _ us hl => match us, hl with | [_], _ => rfl, PySem.W.mg_of X G a27⟩
  have F28 := fun_mk (st := sLaw) l28 c28 k28
  have D28 : Df K mg "law" sLaw ["_law_script"] _ _ := ⟨F28, F28.binds (ps := ["_law_script"]) fun _ _ _ _ _ _ us hl => match us, hl with | [_], _ => rfl, PySem.W.mg_of X G a28⟩
  refine ⟨PySem.W.fnOf "law" "law" (defArgs sLaw) (defBody sLaw) (defScope sLaw) .none kV28 dc28 pm28 an28 cd28 ct28, fun s v => .of_eq rfl, fun base _ _ => ?_⟩
  exact ok_law ⟨gb, PySem.W.mg_of X G aM, D7, D8, D9, D10, D11, D12⟩ ⟨D21, D22, D23, D24, D25, D26, D27, D13, D14, D19, D18, D16, D17⟩ D28
end CC
open PySem PySem.W PyProof.Rows
set_option maxRecDepth 100000 in
set_option maxHeartbeats 0 in
theorem PySem.Challenge.cw_creasecourt_k39_whole_turned_about_holds : PySem.Challenge.rw_creasecourt_k39_whole_turned_about.Holds := by
  w_on; o_law; k_head; (case hw => w_witness2)
  k_fill
  refine L2.walk_ofB (l := PySem.Challenge.rw_creasecourt_k39_whole_turned_about) (n := 63) (k := 7) (x := "_law_script") (CX := fun _ => L2.CX0) (sp := fun w => CC.spLaw _) rfl (by decide) rfl ⟨rfl, by decide, by decide⟩ (fun w h Y => PySem.W.kIn_of Y) ?F (fun _ _ a ns hl hb _ hS => ⟨a, rfl, ⟨ns, hS, hl, hb⟩, fun _ => rfl⟩) (fun _ _ _ _ _ h => h)
  case F =>
    intro w mg fa h KX G hmg
    refine' CC.all_mk KX G hmg ?a7 ?l7 ?c7 ?k7 ?a8 ?l8 ?c8 ?k8 ?a9 ?l9 ?c9 ?k9 ?a10 ?l10 ?c10 ?k10 ?a11 ?l11 ?c11 ?k11 ?a12 ?l12 ?c12 ?k12 ?a13 ?l13 ?c13 ?k13 ?a14 ?l14 ?c14 ?k14 ?a16 ?l16 ?c16 ?k16 ?a17 ?l17 ?c17 ?k17 ?a18 ?l18 ?c18 ?k18 ?a19 ?l19 ?c19 ?k19 ?a21 ?l21 ?c21 ?k21 ?a22 ?l22 ?c22 ?k22 ?a23 ?l23 ?c23 ?k23 ?a24 ?l24 ?c24 ?k24 ?a25 ?l25 ?c25 ?k25 ?a26 ?l26 ?c26 ?k26 ?a27 ?l27 ?c27 ?k27 ?a28 ?l28 ?c28 ?k28 ?aM ?z0 ?z1 ?z2 ?z3 ?z4 ?z5 ?z6 ?z7 ?z8 ?z9 ?z10
    (case a7 => k_is); (case l7 => k_is); (case c7 => k_is); (case k7 => k_is); (case a8 => k_is); (case l8 => k_is)
    (case c8 => k_is); (case k8 => k_is); (case a9 => k_is); (case l9 => k_is); (case c9 => k_is); (case k9 => k_is)
    (case a10 => k_is); (case l10 => k_is); (case c10 => k_is); (case k10 => k_is); (case a11 => k_is); (case l11 => k_is)
    (case c11 => k_is); (case k11 => k_is); (case a12 => k_is); (case l12 => k_is); (case c12 => k_is); (case k12 => k_is)
    (case a13 => k_is); (case l13 => k_is); (case c13 => k_is); (case k13 => k_is); (case a14 => k_is); (case l14 => k_is)
    (case c14 => k_is); (case k14 => k_is); (case a16 => k_is); (case l16 => k_is); (case c16 => k_is); (case k16 => k_is)
    (case a17 => k_is); (case l17 => k_is); (case c17 => k_is); (case k17 => k_is); (case a18 => k_is); (case l18 => k_is)
    (case c18 => k_is); (case k18 => k_is); (case a19 => k_is); (case l19 => k_is); (case c19 => k_is); (case k19 => k_is)
    (case a21 => k_is); (case l21 => k_is); (case c21 => k_is); (case k21 => k_is); (case a22 => k_is); (case l22 => k_is)
    (case c22 => k_is); (case k22 => k_is); (case a23 => k_is); (case l23 => k_is); (case c23 => k_is); (case k23 => k_is)
    (case a24 => k_is); (case l24 => k_is); (case c24 => k_is); (case k24 => k_is); (case a25 => k_is); (case l25 => k_is)
    (case c25 => k_is); (case k25 => k_is); (case a26 => k_is); (case l26 => k_is); (case c26 => k_is); (case k26 => k_is)
    (case a27 => k_is); (case l27 => k_is); (case c27 => k_is); (case k27 => k_is); (case a28 => k_is); (case l28 => k_is)
    (case c28 => k_is); (case k28 => k_is); (case aM => k_is); (case z0 => k_is); (case z1 => k_is); (case z2 => k_is)
    (case z3 => k_is); (case z4 => k_is); (case z5 => k_is); (case z6 => k_is); (case z7 => k_is); (case z8 => k_is)
    (case z9 => k_is); (case z10 => k_is)
