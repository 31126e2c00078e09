import PyProof.Rows.All
import Wide.All
import OpenK.AllK
import Wide.FinOn
import HandS.ForMost
import HandS.TupLen
import PyProof.Draws
import PyProof.Rows.StrMul
import HandS.Strs
import HandS.SetFor
import HandS.EndBits
import HandS.OwnEq
import HandS.DictSub
import HandS.Codes
import HandS.TupAny
import HandS.Walk
import PySem.Challenge.RW_turtlestold_k82_rounds_of_a_game
import HandS.StrMore
import HandS.IsInst
import HandS.WordsExc
import KE.KExcSuper
import HandS.ExcCtx
import HandS.ExcField
import HandS.TryMany
import HandS.HotCalls
import HandS.ExcIs
import HandS.Comp
import HandS.WideBits
import HandS.Flt
import HandS.ClsMeth
import KE.RegKSuper
/-! The game on two words, in plain Lean: composition, restriction, repetition, reversal, renaming. -/
namespace GM

/-- the letter of a place; place 0 has none -/
def lt (w : List Nat) (p : Nat) : Option Nat := if p = 0 then none else w[p - 1]?

theorem lt_zero (w : List Nat) : lt w 0 = none := rfl
theorem lt_succ (w : List Nat) (p : Nat) : lt w (p + 1) = w[p]? := rfl
theorem lt_some {w : List Nat} {p : Nat} (h0 : 1 ≤ p) (h : p ≤ w.length) : ∃ c, lt w p = some c := by
  obtain ⟨q, rfl⟩ : ∃ q, p = q + 1 := ⟨p - 1, by omega⟩
  rw [lt_succ]
  exact ⟨w[q]'(by omega), List.getElem?_eq_getElem (by omega)⟩
theorem lt_left {w v : List Nat} {p : Nat} (h : p ≤ w.length) : lt (w ++ v) p = lt w p := by
  cases p with
  | zero => rfl
  | succ q => rw [lt_succ, lt_succ, List.getElem?_append_left (by omega)]
theorem lt_right {w v : List Nat} {p : Nat} (h : 1 ≤ p) : lt (w ++ v) (w.length + p) = lt v p := by
  obtain ⟨q, rfl⟩ : ∃ q, p = q + 1 := ⟨p - 1, by omega⟩
  rw [lt_succ, ← Nat.add_assoc, lt_succ, List.getElem?_append_right (by omega)]
  congr 1
  omega
theorem lt_map (f : Nat → Nat) (w : List Nat) (p : Nat) : lt (w.map f) p = (lt w p).map f := by
  cases p with
  | zero => rfl
  | succ q => rw [lt_succ, lt_succ, List.getElem?_map]
theorem lt_rev {w : List Nat} {p : Nat} (h0 : 1 ≤ p) (h : p ≤ w.length) : lt w.reverse (w.length + 1 - p) = lt w p := by
  obtain ⟨q, rfl⟩ : ∃ q, p = q + 1 := ⟨p - 1, by omega⟩
  have e : w.length + 1 - (q + 1) = (w.length - 1 - q) + 1 := by omega
  rw [e, lt_succ, lt_succ, List.getElem?_reverse (by omega)]
  congr 1
  omega

abbrev Prs := List (Nat × Nat)
def Fit (w v : List Nat) (P : Prs) : Prop :=
  ∀ x ∈ P, lt w x.1 = lt v x.2 ∧ ∀ y ∈ P, (x.1 < y.1 ↔ x.2 < y.2) ∧ (x.1 = y.1 ↔ x.2 = y.2)
/-- the second player wins r more rounds -/
def Win : Nat → List Nat → List Nat → Prs → Prop
  | 0, w, v, P => Fit w v P
  | r + 1, w, v, P => (∀ p, p ≤ w.length → ∃ q, q ≤ v.length ∧ Win r w v ((p, q) :: P)) ∧
      (∀ q, q ≤ v.length → ∃ p, p ≤ w.length ∧ Win r w v ((p, q) :: P))

theorem Fit.sub {w v : List Nat} {P R : Prs} (h : Fit w v P) (s : ∀ x ∈ R, x ∈ P) : Fit w v R :=
  fun x hx => ⟨(h x (s x hx)).1, fun y hy => (h x (s x hx)).2 y (s y hy)⟩
theorem Win.sub : ∀ {r : Nat} {w v : List Nat} {P R : Prs}, Win r w v P → (∀ x ∈ R, x ∈ P) → Win r w v R
  | 0, _, _, _, _, h, s => Fit.sub h s
  | r + 1, w, v, P, R, h, s => by
    have s' : ∀ z : Nat × Nat, ∀ x ∈ z :: R, x ∈ z :: P := fun z x hx => by
      rcases List.mem_cons.mp hx with e | e
      · exact List.mem_cons.mpr (Or.inl e)
      · exact List.mem_cons.mpr (Or.inr (s x e))
    refine ⟨fun p hp => ?_, fun q hq => ?_⟩
    · obtain ⟨q, hq, h1⟩ := h.1 p hp
      exact ⟨q, hq, Win.sub h1 (s' _)⟩
    · obtain ⟨p, hp, h1⟩ := h.2 q hq
      exact ⟨p, hp, Win.sub h1 (s' _)⟩
theorem Win.down {r : Nat} {w v : List Nat} {P : Prs} (h : Win (r + 1) w v P) : Win r w v P := by
  obtain ⟨q, _, h1⟩ := h.1 0 (Nat.zero_le _)
  exact Win.sub h1 fun x hx => List.mem_cons_of_mem _ hx
theorem Win.fit : ∀ {r : Nat} {w v : List Nat} {P : Prs}, Win r w v P → Fit w v P
  | 0, _, _, _, h => h
  | _ + 1, _, _, _, h => Win.fit (Win.down h)
theorem Win.le {r s : Nat} {w v : List Nat} {P : Prs} (h : Win r w v P) (hs : s ≤ r) : Win s w v P := by
  obtain ⟨k, rfl⟩ : ∃ k, r = s + k := ⟨r - s, by omega⟩
  clear hs
  induction k with
  | zero => exact h
  | succ k ih => exact ih (Win.down h)

/-! ### the same words; both turned about -/
theorem Fit.diag (w : List Nat) {P : Prs} (h : ∀ x ∈ P, x.1 = x.2) : Fit w w P := fun x hx => by
  refine ⟨by rw [h x hx], fun y hy => ?_⟩
  rw [h x hx, h y hy]
  exact ⟨Iff.rfl, Iff.rfl⟩
theorem Win.diag : ∀ (r : Nat) (w : List Nat) {P : Prs}, (∀ x ∈ P, x.1 = x.2) → Win r w w P
  | 0, w, _, h => Fit.diag w h
  | r + 1, w, P, h => by
    have h' : ∀ p : Nat, ∀ x ∈ (p, p) :: P, x.1 = x.2 := fun p x hx => by
      rcases List.mem_cons.mp hx with e | e
      · rw [e]
      · exact h x e
    exact ⟨fun p hp => ⟨p, hp, Win.diag r w (h' p)⟩, fun p hp => ⟨p, hp, Win.diag r w (h' p)⟩⟩
theorem Win.refl (r : Nat) (w : List Nat) : Win r w w [] := Win.diag r w (fun _ h => nomatch h)
theorem Fit.symm {w v : List Nat} {P R : Prs} (h : Fit w v P) (s : ∀ x ∈ R, (x.2, x.1) ∈ P) : Fit v w R := fun x hx => by
  have a := h _ (s x hx)
  refine ⟨a.1.symm, fun y hy => ?_⟩
  have b := a.2 _ (s y hy)
  exact ⟨b.1.symm, b.2.symm⟩
theorem Win.symm : ∀ {r : Nat} {w v : List Nat} {P R : Prs}, Win r w v P → (∀ x ∈ R, (x.2, x.1) ∈ P) → Win r v w R
  | 0, _, _, _, _, h, s => Fit.symm h s
  | r + 1, w, v, P, R, h, s => by
    have s' : ∀ p q : Nat, ∀ x ∈ (q, p) :: R, (x.2, x.1) ∈ (p, q) :: P := fun p q x hx => by
      rcases List.mem_cons.mp hx with e | e
      · subst e
        exact List.mem_cons_self
      · exact List.mem_cons_of_mem _ (s x e)
    refine ⟨fun p hp => ?_, fun q hq => ?_⟩
    · obtain ⟨q, hq, h1⟩ := h.2 p hp
      exact ⟨q, hq, Win.symm h1 (s' _ _)⟩
    · obtain ⟨p, hp, h1⟩ := h.1 q hq
      exact ⟨p, hp, Win.symm h1 (s' _ _)⟩
theorem Win.symm0 {r : Nat} {w v : List Nat} (h : Win r w v []) : Win r v w [] := Win.symm h fun _ h => nomatch h

/-! ### words put together -/
/-- each pair of Z is one of P, within the fronts, or one of R, behind them -/
def Cmb (n m : Nat) (P R Z : Prs) : Prop := ∀ z ∈ Z, z ∈ P ∨ ∃ x ∈ R, 1 ≤ x.1 ∧ 1 ≤ x.2 ∧ z = (n + x.1, m + x.2)
def Inb (n m : Nat) (P : Prs) : Prop := ∀ x ∈ P, x.1 ≤ n ∧ x.2 ≤ m

theorem Inb.cons {n m p q : Nat} {P : Prs} (h : Inb n m P) (hp : p ≤ n) (hq : q ≤ m) : Inb n m ((p, q) :: P) := fun x hx => by
  rcases List.mem_cons.mp hx with e | e
  · rw [e]; exact ⟨hp, hq⟩
  · exact h x e
theorem Cmb.left {n m : Nat} {P R Z : Prs} (h : Cmb n m P R Z) (y : Nat × Nat) : Cmb n m (y :: P) R (y :: Z) := fun z hz => by
  rcases List.mem_cons.mp hz with e | e
  · exact Or.inl (by rw [e]; exact List.mem_cons_self)
  · rcases h z e with a | a
    · exact Or.inl (List.mem_cons_of_mem _ a)
    · exact Or.inr a
theorem Cmb.right {n m : Nat} {P R Z : Prs} (h : Cmb n m P R Z) {p q : Nat} (hp : 1 ≤ p) (hq : 1 ≤ q) : Cmb n m P ((p, q) :: R) ((n + p, m + q) :: Z) := fun z hz => by
  rcases List.mem_cons.mp hz with e | e
  · exact Or.inr ⟨(p, q), List.mem_cons_self, hp, hq, e⟩
  · rcases h z e with a | ⟨x, hx, h1, h2, h3⟩
    · exact Or.inl a
    · exact Or.inr ⟨x, List.mem_cons_of_mem _ hx, h1, h2, h3⟩

theorem Fit.comp {w v w2 v2 : List Nat} {P R Z : Prs} (h1 : Fit w v P) (h2 : Fit w2 v2 R) (b : Inb w.length v.length P) (c : Cmb w.length v.length P R Z) : Fit (w ++ w2) (v ++ v2) Z := by
  intro z hz
  rcases c z hz with hzP | ⟨x, hx, x1, x2, rfl⟩
  · have bz := b z hzP
    refine ⟨by rw [lt_left bz.1, lt_left bz.2]; exact (h1 z hzP).1, fun y hy => ?_⟩
    rcases c y hy with hyP | ⟨u, hu, u1, u2, rfl⟩
    · exact (h1 z hzP).2 y hyP
    · constructor
      · constructor <;> intro _ <;> dsimp only <;> omega
      · constructor <;> intro _ <;> dsimp only at * <;> omega
  · refine ⟨by rw [lt_right x1, lt_right x2]; exact (h2 x hx).1, fun y hy => ?_⟩
    rcases c y hy with hyP | ⟨u, hu, u1, u2, rfl⟩
    · have byy := b y hyP
      constructor
      · constructor <;> intro _ <;> dsimp only at * <;> omega
      · constructor <;> intro _ <;> dsimp only at * <;> omega
    · have q := (h2 x hx).2 u hu
      have q1 := q.1
      have q2 := q.2
      constructor
      · constructor
        · intro t; have := q1.mp (by dsimp only at t; omega); dsimp only; omega
        · intro t; have := q1.mpr (by dsimp only at t; omega); dsimp only; omega
      · constructor
        · intro t; have := q2.mp (by dsimp only at t; omega); dsimp only; omega
        · intro t; have := q2.mpr (by dsimp only at t; omega); dsimp only; omega
/-- a reply to a place with a letter has a letter -/
theorem Win.pos {r : Nat} {w v : List Nat} {p q : Nat} {P : Prs} (h : Win r w v ((p, q) :: P)) (hp : 1 ≤ p) (hpw : p ≤ w.length) : 1 ≤ q := by
  have f := (Win.fit h (p, q) List.mem_cons_self).1
  obtain ⟨c, hc⟩ := lt_some hp hpw
  rcases Nat.eq_zero_or_pos q with e | e
  · subst e
    rw [show lt w (p, 0).1 = lt w p from rfl, hc] at f
    exact nomatch f
  · exact e
theorem Win.pos' {r : Nat} {w v : List Nat} {p q : Nat} {P : Prs} (h : Win r w v ((p, q) :: P)) (hq : 1 ≤ q) (hqv : q ≤ v.length) : 1 ≤ p :=
  Win.pos (Win.symm (R := (q, p) :: P.map fun x => (x.2, x.1)) h (fun x hx => by
    rcases List.mem_cons.mp hx with e | e
    · subst e
      exact List.mem_cons_self
    · obtain ⟨y, hy, rfl⟩ := List.mem_map.mp e
      exact List.mem_cons_of_mem _ hy)) hq hqv
theorem Win.comp : ∀ {r : Nat} {w v w2 v2 : List Nat} {P R Z : Prs}, Win r w v P → Win r w2 v2 R → Inb w.length v.length P → Cmb w.length v.length P R Z → Win r (w ++ w2) (v ++ v2) Z
  | 0, _, _, _, _, _, _, _, h1, h2, b, c => Fit.comp h1 h2 b c
  | r + 1, w, v, w2, v2, P, R, Z, h1, h2, b, c => by
    refine ⟨fun p hp => ?_, fun q hq => ?_⟩
    · rw [List.length_append] at hp
      by_cases hl : p ≤ w.length
      · obtain ⟨q, hq, h⟩ := h1.1 p hl
        exact ⟨q, by rw [List.length_append]; omega, Win.comp h (Win.down h2) (b.cons hl hq) (c.left _)⟩
      · obtain ⟨q, hq, h⟩ := h2.1 (p - w.length) (by omega)
        have q1 : 1 ≤ q := Win.pos h (by omega) (by omega)
        have e : p = w.length + (p - w.length) := by omega
        refine ⟨v.length + q, by rw [List.length_append]; omega, ?_⟩
        have k := Win.comp (Win.down h1) h b (Cmb.right c (p := p - w.length) (q := q) (by omega) q1)
        rw [← e] at k
        exact k
    · rw [List.length_append] at hq
      by_cases hl : q ≤ v.length
      · obtain ⟨p, hp, h⟩ := h1.2 q hl
        exact ⟨p, by rw [List.length_append]; omega, Win.comp h (Win.down h2) (b.cons hp hl) (c.left _)⟩
      · obtain ⟨p, hp, h⟩ := h2.2 (q - v.length) (by omega)
        have p1 : 1 ≤ p := Win.pos' h (by omega) (by omega)
        have e : q = v.length + (q - v.length) := by omega
        refine ⟨w.length + p, by rw [List.length_append]; omega, ?_⟩
        have k := Win.comp (Win.down h1) h b (Cmb.right c (p := p) (q := q - v.length) p1 (by omega))
        rw [← e] at k
        exact k
theorem Win.app {r : Nat} {w v w2 v2 : List Nat} (h1 : Win r w v []) (h2 : Win r w2 v2 []) : Win r (w ++ w2) (v ++ v2) [] :=
  Win.comp h1 h2 (fun _ h => nomatch h) (fun _ h => nomatch h)
/-- place 0 of both words may stand among the pairs -/
theorem Win.zero {r : Nat} {w v : List Nat} {P Z : Prs} (h : Win r w v P) (b : Inb w.length v.length P) (hz : ∀ z ∈ Z, z = (0, 0) ∨ z ∈ P) : Win r w v Z := by
  have k := Win.comp (w := []) (v := []) (P := [(0, 0)]) (Z := Z) (Win.diag r [] (fun x hx => by rw [List.mem_singleton.mp hx])) h (fun x hx => by rw [List.mem_singleton.mp hx]; exact ⟨Nat.le_refl _, Nat.le_refl _⟩) ?_
  · exact k
  · intro z hzz
    rcases hz z hzz with e | e
    · exact Or.inl (List.mem_singleton.mpr e)
    · have f := (Win.fit h z e).1
      have bz := b z e
      rcases Nat.eq_zero_or_pos z.1 with e1 | e1
      · rcases Nat.eq_zero_or_pos z.2 with e2 | e2
        · exact Or.inl (List.mem_singleton.mpr (by rw [← e1]; exact Prod.ext rfl (e2.trans e1.symm)))
        · obtain ⟨c, hc⟩ := lt_some e2 bz.2
          rw [e1, hc] at f
          exact nomatch f
      · rcases Nat.eq_zero_or_pos z.2 with e2 | e2
        · obtain ⟨c, hc⟩ := lt_some e1 bz.1
          rw [e2, hc] at f
          exact nomatch f
        · exact Or.inr ⟨z, e, e1, e2, by rw [List.length_nil, Nat.zero_add, Nat.zero_add]⟩

/-! ### words again and again -/
def rep (v : List Nat) : Nat → List Nat
  | 0 => []
  | n + 1 => v ++ rep v n
theorem rep_length (v : List Nat) : ∀ n, (rep v n).length = n * v.length
  | 0 => by rw [Nat.zero_mul]; rfl
  | n + 1 => by
    show (v ++ rep v n).length = _
    rw [List.length_append, rep_length v n, Nat.succ_mul, Nat.add_comm]
theorem rep_add (v : List Nat) : ∀ n m, rep v (n + m) = rep v n ++ rep v m
  | 0, m => by rw [Nat.zero_add]; rfl
  | n + 1, m => by
    rw [Nat.succ_add]
    show v ++ rep v (n + m) = (v ++ rep v n) ++ rep v m
    rw [rep_add v n m, List.append_assoc]
theorem rep_nil : ∀ n, rep [] n = []
  | 0 => rfl
  | n + 1 => by show [] ++ rep [] n = []; rw [rep_nil n]; rfl

/-- one move into v ^ (i + 1 + k), answered in v ^ (j + 1 + l) -/
theorem move {r : Nat} {v : List Nat} {i k j l p : Nat} (h1 : Win r (rep v i) (rep v j) []) (h2 : Win r (rep v k) (rep v l) []) (hp : 1 ≤ p) (hpv : p ≤ v.length) :
    Win r (rep v (i + 1 + k)) (rep v (j + 1 + l)) [(i * v.length + p, j * v.length + p)] := by
  have m : Win r (v ++ rep v k) (v ++ rep v l) [(p, p)] := Win.comp (P := [(p, p)]) (R := []) (Win.diag r v (fun x hx => by rw [List.mem_singleton.mp hx])) h2
    (fun x hx => by rw [List.mem_singleton.mp hx]; exact ⟨hpv, hpv⟩) (fun z hz => Or.inl hz)
  have q := Win.comp (P := []) (R := [(p, p)]) (Z := [(i * v.length + p, j * v.length + p)]) h1 m (fun _ h => nomatch h) (fun z hz => Or.inr ⟨(p, p), List.mem_singleton.mpr rfl, hp, hp, by
    rw [List.mem_singleton.mp hz, rep_length, rep_length]⟩)
  have e1 : rep v (i + 1 + k) = rep v i ++ (v ++ rep v k) := by rw [Nat.add_assoc, rep_add, Nat.add_comm 1 k]; rfl
  have e2 : rep v (j + 1 + l) = rep v j ++ (v ++ rep v l) := by rw [Nat.add_assoc, rep_add, Nat.add_comm 1 l]; rfl
  rw [e1, e2]
  exact q
theorem pow_pred (r : Nat) : 2 ^ (r + 1) - 1 = (2 ^ r - 1) + 1 + (2 ^ r - 1) := by
  have h : 1 ≤ 2 ^ r := Nat.one_le_two_pow
  rw [Nat.pow_succ]
  omega
/-- the copies on both sides of the copy that was met -/
theorem split {t i k m : Nat} (h1 : t + 1 + t ≤ i + 1 + k) (h2 : t + 1 + t ≤ m) : ∃ j l, m = j + 1 + l ∧ (i = j ∨ t ≤ i ∧ t ≤ j) ∧ (k = l ∨ t ≤ k ∧ t ≤ l) := by
  by_cases hi : i < t
  · exact ⟨i, m - 1 - i, by omega, Or.inl rfl, Or.inr ⟨by omega, by omega⟩⟩
  · by_cases hk : k < t
    · exact ⟨m - 1 - k, k, by omega, Or.inr ⟨by omega, by omega⟩, Or.inl rfl⟩
    · exact ⟨t, m - 1 - t, by omega, Or.inr ⟨by omega, by omega⟩, Or.inr ⟨by omega, by omega⟩⟩
/-- a place of v ^ n, from 1 on: a copy and a place in it -/
theorem in_copy {n d p : Nat} (hp : 1 ≤ p) (hn : p ≤ n * d) : ∃ i k u, n = i + 1 + k ∧ 1 ≤ u ∧ u ≤ d ∧ p = i * d + u := by
  have d0 : 0 < d := by
    rcases Nat.eq_zero_or_pos d with e | e
    · rw [e, Nat.mul_zero] at hn; omega
    · exact e
  have e := Nat.div_add_mod (p - 1) d
  have l := Nat.mod_lt (p - 1) d0
  have hi : (p - 1) / d < n := (Nat.div_lt_iff_lt_mul d0).mpr (by omega)
  refine ⟨(p - 1) / d, n - 1 - (p - 1) / d, (p - 1) % d + 1, by omega, by omega, by omega, ?_⟩
  rw [Nat.mul_comm] at e
  omega
theorem half {r : Nat} {v : List Nat} (ih : ∀ n m, (n = m ∨ 2 ^ r - 1 ≤ n ∧ 2 ^ r - 1 ≤ m) → Win r (rep v n) (rep v m) []) {n m p : Nat} (h : 2 ^ (r + 1) - 1 ≤ n ∧ 2 ^ (r + 1) - 1 ≤ m) (hp : p ≤ (rep v n).length) :
    ∃ q, q ≤ (rep v m).length ∧ Win r (rep v n) (rep v m) [(p, q)] := by
  rw [pow_pred] at h
  rcases Nat.eq_zero_or_pos p with e | e
  · refine ⟨0, Nat.zero_le _, ?_⟩
    subst e
    exact Win.zero (P := []) (ih n m (Or.inr ⟨by omega, by omega⟩)) (fun _ h => nomatch h) (fun z hz => Or.inl (List.mem_singleton.mp hz))
  · rw [rep_length] at hp
    obtain ⟨i, k, u, rfl, u1, u2, rfl⟩ := in_copy e hp
    obtain ⟨j, l, rfl, hij, hkl⟩ := split h.1 h.2
    refine ⟨j * v.length + u, ?_, move (ih i j hij) (ih k l hkl) u1 u2⟩
    rw [rep_length, Nat.add_mul, Nat.add_mul]
    omega
theorem repeats (v : List Nat) : ∀ (r n m : Nat), (n = m ∨ 2 ^ r - 1 ≤ n ∧ 2 ^ r - 1 ≤ m) → Win r (rep v n) (rep v m) []
  | r, n, m, .inl e => by subst e; exact Win.refl r _
  | 0, _, _, .inr _ => fun x hx => nomatch hx
  | r + 1, n, m, .inr h => by
    refine ⟨fun p hp => half (repeats v r) h hp, fun q hq => ?_⟩
    obtain ⟨p, hp, k⟩ := half (n := m) (m := n) (repeats v r) ⟨h.2, h.1⟩ hq
    exact ⟨p, hp, Win.symm k (fun x hx => by rw [List.mem_singleton.mp hx]; exact List.mem_singleton.mpr rfl)⟩

/-! ### the parts ahead of a pair and behind it -/
theorem Win.ahead : ∀ {r : Nat} {w v w2 v2 : List Nat} {P Z : Prs}, Win r (w ++ w2) (v ++ v2) Z → (w.length + 1, v.length + 1) ∈ Z → (∀ x ∈ P, x ∈ Z) → Inb w.length v.length P → Win r w v P
  | 0, w, v, w2, v2, P, Z, h, hm, s, b => fun x hx => by
    have f := h x (s x hx)
    have bx := b x hx
    refine ⟨?_, fun y hy => f.2 y (s y hy)⟩
    have f1 := f.1
    rw [lt_left bx.1, lt_left bx.2] at f1
    exact f1
  | r + 1, w, v, w2, v2, P, Z, h, hm, s, b => by
    have s' : ∀ z : Nat × Nat, ∀ x ∈ z :: P, x ∈ z :: Z := fun z x hx => by
      rcases List.mem_cons.mp hx with e | e
      · exact List.mem_cons.mpr (Or.inl e)
      · exact List.mem_cons_of_mem _ (s x e)
    refine ⟨fun p hp => ?_, fun q hq => ?_⟩
    · obtain ⟨q, hq, k⟩ := h.1 p (by rw [List.length_append]; omega)
      have o := ((Win.fit k (p, q) List.mem_cons_self).2 _ (List.mem_cons_of_mem _ hm)).1
      have hq' : q ≤ v.length := Nat.le_of_lt_succ (o.mp (Nat.lt_succ_of_le hp))
      exact ⟨q, hq', Win.ahead k (List.mem_cons_of_mem _ hm) (s' _) (b.cons hp hq')⟩
    · obtain ⟨p, hp, k⟩ := h.2 q (by rw [List.length_append]; omega)
      have o := ((Win.fit k (p, q) List.mem_cons_self).2 _ (List.mem_cons_of_mem _ hm)).1
      have hp' : p ≤ w.length := Nat.le_of_lt_succ (o.mpr (Nat.lt_succ_of_le hq))
      exact ⟨p, hp', Win.ahead k (List.mem_cons_of_mem _ hm) (s' _) (b.cons hp' hq)⟩
theorem Win.behind : ∀ {r : Nat} {w v w2 v2 : List Nat} {P Z : Prs}, Win r (w ++ w2) (v ++ v2) Z → (w.length, v.length) ∈ Z → (∀ x ∈ P, (w.length + x.1, v.length + x.2) ∈ Z) → Win r w2 v2 P
  | 0, w, v, w2, v2, P, Z, h, hm, s => fun x hx => by
    have f := h _ (s x hx)
    have g := (h _ hm).2 _ (s x hx)
    have g2 := g.2
    refine ⟨?_, fun y hy => ?_⟩
    · have f1 := f.1
      rcases Nat.eq_zero_or_pos x.1 with e | e
      · have : x.2 = 0 := by
          have := g2.mp (by dsimp only; omega)
          dsimp only at this
          omega
        rw [e, this]
        rfl
      · have e2 : 1 ≤ x.2 := by
          rcases Nat.eq_zero_or_pos x.2 with z | z
          · have := g2.mpr (by dsimp only; omega)
            dsimp only at this
            omega
          · exact z
        rw [lt_right e, lt_right e2] at f1
        exact f1
    · have q := f.2 _ (s y hy)
      have q1 := q.1
      have q2 := q.2
      constructor
      · constructor
        · intro t; have := q1.mp (by dsimp only; omega); dsimp only at this; omega
        · intro t; have := q1.mpr (by dsimp only; omega); dsimp only at this; omega
      · constructor
        · intro t; have := q2.mp (by dsimp only; omega); dsimp only at this; omega
        · intro t; have := q2.mpr (by dsimp only; omega); dsimp only at this; omega
  | r + 1, w, v, w2, v2, P, Z, h, hm, s => by
    have s' : ∀ p q : Nat, ∀ x ∈ (p, q) :: P, (w.length + x.1, v.length + x.2) ∈ (w.length + p, v.length + q) :: Z := fun p q x hx => by
      rcases List.mem_cons.mp hx with e | e
      · rw [e]; exact List.mem_cons_self
      · exact List.mem_cons_of_mem _ (s x e)
    refine ⟨fun p hp => ?_, fun q hq => ?_⟩
    · obtain ⟨q, hq, k⟩ := h.1 (w.length + p) (by rw [List.length_append]; omega)
      have o := ((Win.fit k _ List.mem_cons_self).2 _ (List.mem_cons_of_mem _ hm)).1
      have hq' : v.length ≤ q := by
        rcases Nat.lt_or_ge q v.length with a | a
        · have := o.mpr a
          dsimp only at this
          omega
        · exact a
      rw [List.length_append] at hq
      obtain ⟨u, rfl⟩ : ∃ u, q = v.length + u := ⟨q - v.length, by omega⟩
      exact ⟨u, by omega, Win.behind k (List.mem_cons_of_mem _ hm) (s' _ _)⟩
    · obtain ⟨p, hp, k⟩ := h.2 (v.length + q) (by rw [List.length_append]; omega)
      have o := ((Win.fit k _ List.mem_cons_self).2 _ (List.mem_cons_of_mem _ hm)).1
      have hp' : w.length ≤ p := by
        rcases Nat.lt_or_ge p w.length with a | a
        · have := o.mp a
          dsimp only at this
          omega
        · exact a
      rw [List.length_append] at hp
      obtain ⟨u, rfl⟩ : ∃ u, p = w.length + u := ⟨p - w.length, by omega⟩
      exact ⟨u, by omega, Win.behind k (List.mem_cons_of_mem _ hm) (s' _ _)⟩

/-! ### one letter -/
theorem one_letter_step {r c : Nat} (ih : ∀ n m, Win r (rep [c] n) (rep [c] m) [] → n = m ∨ 2 ^ r - 1 ≤ n ∧ 2 ^ r - 1 ≤ m) {n m : Nat} (h : Win (r + 1) (rep [c] n) (rep [c] m) []) (hlt : n < m) : 2 ^ (r + 1) - 1 ≤ n := by
  rw [pow_pred]
  have len : ∀ k, (rep [c] k).length = k := fun k => by rw [rep_length, List.length_singleton, Nat.mul_one]
  -- the longer word's place with min(t, ..) letters ahead of it
  have go : ∀ a, a < m → ∃ b, b < n ∧ (b = a ∨ 2 ^ r - 1 ≤ b ∧ 2 ^ r - 1 ≤ a) ∧ (n - 1 - b = m - 1 - a ∨ 2 ^ r - 1 ≤ n - 1 - b ∧ 2 ^ r - 1 ≤ m - 1 - a) := by
    intro a ha
    obtain ⟨p, hp, k⟩ := h.2 (a + 1) (by rw [len]; omega)
    have p1 : 1 ≤ p := Win.pos' k (by omega) (by rw [len]; omega)
    rw [len] at hp
    obtain ⟨b, rfl⟩ : ∃ b, p = b + 1 := ⟨p - 1, by omega⟩
    refine ⟨b, by omega, ?_, ?_⟩
    · have e1 : rep [c] n = rep [c] b ++ rep [c] (n - b) := by rw [← rep_add]; congr 1; omega
      have e2 : rep [c] m = rep [c] a ++ rep [c] (m - a) := by rw [← rep_add]; congr 1; omega
      rw [e1, e2] at k
      exact ih b a (Win.ahead (P := []) k (by rw [len, len]; exact List.mem_cons_self) (fun _ h => nomatch h) (fun _ h => nomatch h))
    · have e1 : rep [c] n = rep [c] (b + 1) ++ rep [c] (n - 1 - b) := by rw [← rep_add]; congr 1; omega
      have e2 : rep [c] m = rep [c] (a + 1) ++ rep [c] (m - 1 - a) := by rw [← rep_add]; congr 1; omega
      rw [e1, e2] at k
      exact ih _ _ (Win.behind (P := []) k (by rw [len, len]; exact List.mem_cons_self) (fun _ h => nomatch h))
  generalize 2 ^ r - 1 = t at *
  by_cases hm : t + 1 + t ≤ m
  · obtain ⟨b, h1, h2, h3⟩ := go t (by omega)
    omega
  · obtain ⟨b, h1, h2, h3⟩ := go (min (t - 1) (m - 1)) (by omega)
    omega
theorem one_letter (c : Nat) : ∀ r n m, Win r (rep [c] n) (rep [c] m) [] → n = m ∨ 2 ^ r - 1 ≤ n ∧ 2 ^ r - 1 ≤ m
  | 0, n, m, _ => Or.inr ⟨Nat.zero_le _, Nat.zero_le _⟩
  | r + 1, n, m, h => by
    rcases Nat.lt_trichotomy n m with e | e | e
    · have q := one_letter_step (one_letter c r) h e
      exact Or.inr ⟨q, by omega⟩
    · exact Or.inl e
    · have q := one_letter_step (one_letter c r) (Win.symm0 h) e
      exact Or.inr ⟨by omega, q⟩
theorem one_letter_iff (c r n m : Nat) : Win r (rep [c] n) (rep [c] m) [] ↔ n = m ∨ 2 ^ r - 1 ≤ n ∧ 2 ^ r - 1 ≤ m := ⟨one_letter c r n m, repeats [c] r n m⟩

/-! ### read from the end; other letters -/
def rv (n p : Nat) : Nat := if p = 0 then 0 else n + 1 - p
theorem rv_le (n p : Nat) : rv n p ≤ n := by unfold rv; split <;> omega
theorem rv_rv {n p : Nat} (h : p ≤ n) : rv n (rv n p) = p := by
  unfold rv
  by_cases e : p = 0
  · rw [if_pos e, if_pos rfl, e]
  · rw [if_neg e, if_neg (by omega)]; omega
theorem lt_rv {w : List Nat} {p : Nat} (h : p ≤ w.length) : lt w.reverse (rv w.length p) = lt w p := by
  unfold rv
  split
  · rename_i e; rw [e]; rfl
  · exact lt_rev (by omega) h
theorem Fit.rev {w v : List Nat} {P Z : Prs} (h : Fit w v P) (b : Inb w.length v.length P) (s : ∀ z ∈ Z, ∃ x ∈ P, z = (rv w.length x.1, rv v.length x.2)) : Fit w.reverse v.reverse Z := by
  have nz : ∀ x ∈ P, x.1 = 0 ↔ x.2 = 0 := fun x hx => by
    have f := (h x hx).1
    have bx := b x hx
    constructor
    · intro e
      rcases Nat.eq_zero_or_pos x.2 with z | z
      · exact z
      · obtain ⟨c, hc⟩ := lt_some z bx.2
        rw [e, hc] at f
        exact nomatch f
    · intro e
      rcases Nat.eq_zero_or_pos x.1 with z | z
      · exact z
      · obtain ⟨c, hc⟩ := lt_some z bx.1
        rw [e, hc] at f
        exact nomatch f
  intro z hz
  obtain ⟨x, hx, rfl⟩ := s z hz
  have bx := b x hx
  have nx := nz x hx
  refine ⟨by dsimp only; rw [lt_rv bx.1, lt_rv bx.2]; exact (h x hx).1, fun y hy => ?_⟩
  obtain ⟨u, hu, rfl⟩ := s y hy
  have bu := b u hu
  have nu := nz u hu
  have q1 := ((h x hx).2 u hu).1
  have q2 := ((h x hx).2 u hu).2
  have q3 := ((h u hu).2 x hx).1
  dsimp only
  unfold rv
  constructor
  · split <;> split <;> split <;> split <;> constructor <;> intro t <;> omega
  · split <;> split <;> split <;> split <;> constructor <;> intro t <;> omega
theorem Win.rev : ∀ {r : Nat} {w v : List Nat} {P Z : Prs}, Win r w v P → Inb w.length v.length P → (∀ z ∈ Z, ∃ x ∈ P, z = (rv w.length x.1, rv v.length x.2)) → Win r w.reverse v.reverse Z
  | 0, _, _, _, _, h, b, s => Fit.rev h b s
  | r + 1, w, v, P, Z, h, b, s => by
    have s' : ∀ p q : Nat, ∀ z ∈ (rv w.length p, rv v.length q) :: Z, ∃ x ∈ (p, q) :: P, z = (rv w.length x.1, rv v.length x.2) := fun p q z hz => by
      rcases List.mem_cons.mp hz with e | e
      · exact ⟨(p, q), List.mem_cons_self, e⟩
      · obtain ⟨x, hx, e2⟩ := s z e
        exact ⟨x, List.mem_cons_of_mem _ hx, e2⟩
    refine ⟨fun p hp => ?_, fun q hq => ?_⟩
    · rw [List.length_reverse] at hp
      obtain ⟨q, hq, k⟩ := h.1 (rv w.length p) (rv_le _ _)
      refine ⟨rv v.length q, by rw [List.length_reverse]; exact rv_le _ _, ?_⟩
      have z := Win.rev k (b.cons (rv_le _ _) hq) (s' _ _)
      rw [rv_rv hp] at z
      exact z
    · rw [List.length_reverse] at hq
      obtain ⟨p, hp, k⟩ := h.2 (rv v.length q) (rv_le _ _)
      refine ⟨rv w.length p, by rw [List.length_reverse]; exact rv_le _ _, ?_⟩
      have z := Win.rev k (b.cons hp (rv_le _ _)) (s' _ _)
      rw [rv_rv hq] at z
      exact z
theorem Win.rev0 {r : Nat} {w v : List Nat} (h : Win r w v []) : Win r w.reverse v.reverse [] := Win.rev (P := []) h (fun _ h => nomatch h) (fun _ h => nomatch h)
theorem win_rev (r : Nat) (w v : List Nat) : Win r w.reverse v.reverse [] ↔ Win r w v [] :=
  ⟨fun h => by have := Win.rev0 h; rwa [List.reverse_reverse, List.reverse_reverse] at this, Win.rev0⟩
theorem Win.map (f : Nat → Nat) : ∀ {r : Nat} {w v : List Nat} {P : Prs}, Win r w v P → Win r (w.map f) (v.map f) P
  | 0, _, _, _, h => fun x hx => ⟨by rw [lt_map, lt_map, (h x hx).1], (h x hx).2⟩
  | r + 1, w, v, P, h => by
    refine ⟨fun p hp => ?_, fun q hq => ?_⟩
    · rw [List.length_map] at hp
      obtain ⟨q, hq, k⟩ := h.1 p hp
      exact ⟨q, by rw [List.length_map]; exact hq, Win.map f k⟩
    · rw [List.length_map] at hq
      obtain ⟨p, hp, k⟩ := h.2 q hq
      exact ⟨p, by rw [List.length_map]; exact hp, Win.map f k⟩
/-- letters exchanged and exchanged back -/
theorem win_map {f g : Nat → Nat} {w v : List Nat} (hg : ∀ c, c ∈ w ∨ c ∈ v → g (f c) = c) (r : Nat) : Win r (w.map f) (v.map f) [] ↔ Win r w v [] := by
  refine ⟨fun h => ?_, Win.map f⟩
  have k := Win.map g h
  have e1 : (w.map f).map g = w := by
    rw [List.map_map]
    exact (List.map_congr_left (fun c hc => hg c (Or.inl hc))).trans (List.map_id _)
  have e2 : (v.map f).map g = v := by
    rw [List.map_map]
    exact (List.map_congr_left (fun c hc => hg c (Or.inr hc))).trans (List.map_id _)
  rw [e1, e2] at k
  exact k
end GM

set_option Elab.async false
set_option linter.all false
set_option maxRecDepth 100000
set_option maxHeartbeats 4000000
/-! Dicts whose keys are tuples of ints, texts, and tuples of ints and texts. -/
namespace NK
open PySem PySem.Spec PyProof.Rows L2

abbrev Itm := Sum Key (List Key)
section
variable (P : Program) (w : World)
def itmIs (h : Heap) : Itm → Value → Prop
  | .inl k, v => keyIs k v = true
  | .inr ks, v => ∃ a, v = .ref a ∧ IsTupleKey (mixKind P w) h ks a
def IsN (h : Heap) (ks : List Itm) (a : Addr) : Prop := ∃ o items n, h.get? a = some o ∧ o.cls = .type "tuple" ∧ o.data = .seq items n ∧ Paired (itmIs P w h) ks items.toList
def itmH : Itm → Int
  | .inl k => keyH w k
  | .inr ks => tupleKeyHash (mixKind P w) ks
def itmD : Itm → Nat
  | .inl _ => 1
  | .inr ks => ks.length + 1
def nkD : List Itm → Nat
  | [] => 1
  | i :: r => itmD i + nkD r
def nkH (ks : List Itm) : Int := reduceHash (Builtin.Tuple.tupleHashOf (ks.map (itmH P w)))
end

section
variable {P : Program} {w : World} {h : Heap}
theorem itm_inj {x y : Itm} {v : Value} (hx : itmIs P w h x v) (hy : itmIs P w h y v) : x = y := by
  cases x with
  | inl k =>
    cases y with
    | inl j => rw [(mixKind P w).inj v k j hx hy]
    | inr js =>
      obtain ⟨a, rfl, _⟩ := hy
      rcases keyIs_shape hx with ⟨i, t, _, e⟩ | ⟨z, t, _, e⟩ <;> cases e
  | inr ks =>
    obtain ⟨a, rfl, ha⟩ := hx
    cases y with
    | inl j => rcases keyIs_shape hy with ⟨i, t, _, e⟩ | ⟨z, t, _, e⟩ <;> cases e
    | inr js =>
      obtain ⟨b, e, hb⟩ := hy
      cases e
      rw [ha.inj hb]
theorem itms_inj {vs : List Value} : ∀ {x y : List Itm}, Paired (itmIs P w h) x vs → Paired (itmIs P w h) y vs → x = y := by
  induction vs with
  | nil => intro x y hx hy; cases hx; cases hy; rfl
  | cons v vs ih =>
    intro x y hx hy
    cases hx with
    | cons h1 t1 =>
      cases hy with
      | cons h2 t2 => rw [itm_inj h1 h2, ih t1 t2]
theorem IsN.inj {x y : List Itm} {a : Addr} (hx : IsN P w h x a) (hy : IsN P w h y a) : x = y := by
  obtain ⟨o, items, n, ho, _, hd, hi⟩ := hx
  obtain ⟨o', items', n', ho', _, hd', hi'⟩ := hy
  obtain rfl : o = o' := Option.some.inj (ho.symm.trans ho')
  rw [hd] at hd'
  injection hd' with h1 _
  subst h1
  exact itms_inj hi hi'
theorem IsN.typeIs {s : Shared} {ks : List Itm} {a : Addr} (x : IsN P w s.heap ks a) : s.TypeIs (.ref a) "tuple" := let ⟨o, _, _, ho, hc, _⟩ := x; ⟨o, ho, hc⟩
theorem itm_keeps {h' : Heap} {d : Addr} {o : Obj} {es ep} (ho : h.get? d = some o) (hd : o.data = .dict es ep) (hs : Heap.SameBut d h h') : ∀ {k : Itm} {v : Value}, itmIs P w h k v → itmIs P w h' k v
  | .inl _, _, x => x
  | .inr _, _, ⟨a, e, x⟩ => ⟨a, e, x.keeps ho hd hs⟩
theorem IsN.keeps {h' : Heap} {ks : List Itm} {a d : Addr} {o : Obj} {es ep} (x : IsN P w h ks a) (ho : h.get? d = some o) (hd : o.data = .dict es ep) (hs : Heap.SameBut d h h') : IsN P w h' ks a := by
  obtain ⟨o', items, n, ho', hc, hd', hi⟩ := x
  have hne : a ≠ d := by
    rintro rfl
    obtain rfl : o' = o := Option.some.inj (ho'.symm.trans ho)
    rw [hd] at hd'; exact nomatch hd'
  exact ⟨o', items, n, (hs.2 a hne).trans ho', hc, hd', Paired.mapP hi fun _ _ z => itm_keeps ho hd hs z⟩
end

section
variable {P : Program} {w : World} {A : Around} {E : Value → Shared → Prop} {s : Shared}
theorem itm_hash {k : Itm} {v : Value} {Q : Int → Shared → Prop} (hu : A.units + 1 < cLine) (hk : itmIs P w s.heap k v) (h : Q (itmH P w k) { s with toks := s.toks + itmD k }) :
    wpAny (model P w) A (pyHash v) Q E s := by
  cases k with
  | inl k => exact (mixKind P w).pyHash hk h
  | inr ks =>
    obtain ⟨a, rfl, ha⟩ := hk
    exact wpAny_pyHash_tuple (by omega) ha h
theorem isTuple_of {ks : List Key} {a : Addr} (x : IsTupleKey (mixKind P w) s.heap ks a) : ∃ items, s.heap.IsTuple a items := by
  obtain ⟨o, items, n, ho, hc, hd, _⟩ := x
  exact ⟨items, o, ho, hc, n, hd⟩
theorem itm_eq {x y : Itm} {u v : Value} {Q : Bool → Shared → Prop} (hu : A.units + 1 < cLine) (hx : itmIs P w s.heap x u) (hy : itmIs P w s.heap y v) (h : Q (decide (x = y)) s) :
    wpAny (model P w) A (eqBool u v) Q E s := by
  cases x with
  | inl k =>
    cases y with
    | inl j =>
      refine (mixKind P w).eqBool (a := k) (b := j) hx hy ?_
      have e : decide ((Sum.inl k : Itm) = Sum.inl j) = decide (k = j) := by
        by_cases e : k = j
        · subst e; rw [decide_eq_true rfl, decide_eq_true rfl]
        · rw [decide_eq_false e, decide_eq_false (fun z => e (Sum.inl.inj z))]
      rw [← e]; exact h
    | inr js =>
      obtain ⟨a, rfl, ha⟩ := hy
      obtain ⟨items, hi⟩ := isTuple_of ha
      have e : decide ((Sum.inl k : Itm) = Sum.inr js) = false := decide_eq_false (fun q => nomatch q)
      rw [e] at h
      rcases keyIs_shape hx with ⟨i, t, _, rfl⟩ | ⟨z, t, _, rfl⟩
      · exact SeqAt.EqAt.int_tuple i t hi (by omega) P w E Q h
      · exact SeqAt.EqAt.str_tuple z t hi (by omega) P w E Q h
  | inr ks =>
    obtain ⟨a, rfl, ha⟩ := hx
    cases y with
    | inl j =>
      obtain ⟨items, hi⟩ := isTuple_of ha
      have e : decide ((Sum.inr ks : Itm) = Sum.inl j) = false := decide_eq_false (fun q => nomatch q)
      rw [e] at h
      rcases keyIs_shape hy with ⟨i, t, _, rfl⟩ | ⟨z, t, _, rfl⟩
      · exact SeqAt.EqAt.tuple_int i t hi (by omega) P w E Q h
      · exact SeqAt.EqAt.tuple_str z t hi (by omega) P w E Q h
    | inr js =>
      obtain ⟨b, rfl, hb⟩ := hy
      refine wpAny_eqBool_tuple (by omega) ha hb ?_
      have e : decide ((Sum.inr ks : Itm) = Sum.inr js) = decide (ks = js) := by
        by_cases e : ks = js
        · subst e; rw [decide_eq_true rfl, decide_eq_true rfl]
        · rw [decide_eq_false e, decide_eq_false (fun z => e (Sum.inr.inj z))]
      rw [← e]; exact h
theorem itm_quiet {k : Itm} {v : Value} {n : Nat} {Q : Bool → Shared → Prop} (hk : itmIs P w s.heap k v) (h : Q true s) : wpAny (model P w) A (eqIsQuiet (n + 1) v) Q E s := by
  cases k with
  | inl k =>
    rw [eqIsQuiet_byValue _ ((mixKind P w).byValue k v hk)]
    exact wpAny_pure h
  | inr ks =>
    obtain ⟨a, rfl, hk⟩ := hk
    have hT := hk.typeIs
    obtain ⟨o, items, m, ho, _, hd, hi⟩ := hk
    unfold eqIsQuiet
    refine wpAny_bind (wpAny_specialOf hT F.slot_tuple_eq.lookup ?_)
    show wpAny _ _ (isInstance (.ref a) (.type "tuple") >>= _) _ _ s
    refine wpAny_bind (wpAny_isInstance hT isSubtype_tuple_tuple ?_)
    simp only [Bool.not_true, Bool.false_eq_true, if_false]
    refine wpAny_bind (wpAny_seqItems ho hd ?_)
    refine wpAny_bind ?_
    show wpAny _ _ (forIn items _ _) _ _ s
    rw [← Array.forIn_toList]
    refine wpAny_forIn_list _ (fun rest r s' => r.1 = none ∧ s' = s ∧ ∀ v ∈ rest, carriedByValue v = true) _ ?_ ?_ _ _ ⟨rfl, rfl, hi.byValue⟩
    · rintro v rest r s' ⟨hr, rfl, hall⟩
      rw [eqIsQuiet_byValue _ (hall v List.mem_cons_self)]
      refine wpAny_bind (wpAny_pure ?_)
      simp only [Bool.not_true, Bool.false_eq_true, if_false]
      exact wpAny_pure ⟨rfl, rfl, fun u hu' => hall u (List.mem_cons_of_mem _ hu')⟩
    · rintro ⟨r1, r2⟩ s' ⟨hr, rfl, _⟩
      simp only at hr
      subst hr
      exact wpAny_pure h
theorem nk_quiet {ks : List Itm} {a : Addr} {Q : Bool → Shared → Prop} (hk : IsN P w s.heap ks a) (h : Q true s) : wpAny (model P w) A (eqIsQuiet 8 (.ref a)) Q E s := by
  have hT := hk.typeIs
  obtain ⟨o, items, m, ho, _, hd, hi⟩ := hk
  unfold eqIsQuiet
  refine wpAny_bind (wpAny_specialOf hT F.slot_tuple_eq.lookup ?_)
  show wpAny _ _ (isInstance (.ref a) (.type "tuple") >>= _) _ _ s
  refine wpAny_bind (wpAny_isInstance hT isSubtype_tuple_tuple ?_)
  simp only [Bool.not_true, Bool.false_eq_true, if_false]
  refine wpAny_bind (wpAny_seqItems ho hd ?_)
  refine wpAny_bind ?_
  show wpAny _ _ (forIn items _ _) _ _ s
  rw [← Array.forIn_toList]
  refine wpAny_forIn_list _ (fun rest r s' => r.1 = none ∧ s' = s ∧ ∃ left, Paired (itmIs P w s.heap) left rest) _ ?_ ?_ _ _ ⟨rfl, rfl, ks, hi⟩
  · rintro v rest r s' ⟨hr, rfl, left, hl⟩
    cases hl with
    | cons h1 t1 =>
      refine wpAny_bind (itm_quiet h1 ?_)
      simp only [Bool.not_true, Bool.false_eq_true, if_false]
      exact wpAny_pure ⟨rfl, rfl, _, t1⟩
  · rintro ⟨r1, r2⟩ s' ⟨hr, rfl, _⟩
    simp only at hr
    subst hr
    exact wpAny_pure h
theorem nkD_snoc (k : Itm) : ∀ ks : List Itm, nkD (ks ++ [k]) = nkD ks + itmD k
  | [] => by show itmD k + 1 = 1 + itmD k; omega
  | i :: r => by show itmD i + nkD (r ++ [k]) = itmD i + nkD r + itmD k; rw [nkD_snoc k r]; omega
theorem nk_hash {ks : List Itm} {a : Addr} {Q : Int → Shared → Prop} (hu : A.units + 8 < cLine) (hk : IsN P w s.heap ks a) (h : Q (nkH P w ks) { s with toks := s.toks + nkD ks }) :
    wpAny (model P w) A (pyHash (.ref a)) Q E s := by
  have hT := hk.typeIs
  obtain ⟨o, items, n, ho, _, hd, hi⟩ := hk
  unfold pyHash
  first | unfold pyHashByItsType | skip
  first | refine wpAny_bind (wpAny_cRoomFor_or (.inr (by omega)) ?_) | skip
  refine wpAny_bind (wpAny_specialOf hT F.slot_tuple_hash.lookup ?_)
  show wpAny _ _ (if (some (Value.builtin "tuple.__hash__") == some Value.none) = true then _ else _) Q E s
  rw [if_neg (by rw [beq_builtin_none]; exact Bool.false_ne_true)]
  refine wpAny_bind (wpAny_specialOf hT F.slot_tuple_hash.lookup ?_)
  show wpAny _ _ (callSpecialIfBoundUnlessNone? (.ref a) "__hash__" _ >>= _) Q E s
  refine wpAny_bind (wpAny_callSpecialIfBoundUnlessNone?_slot hT F.slot_tuple_hash (wpAny_call_entry F.slot_tuple_hash hT F.entry_tuple_hash ?_ (F.args_tuple_hash_1 _)))
  show wpAny _ _ (Builtin.Tuple.tupleItemsOf (.ref a) >>= _) _ _ s
  refine wpAny_bind (wpAny_tupleItemsOf ho hd ?_)
  refine wpAny_bind ?_
  rw [← Array.forIn_toList]
  refine wpAny_forIn_list _
    (fun rest (b : Array Int) s' => ∃ done left, ks = done ++ left ∧ Paired (itmIs P w s.heap) left rest ∧ b.toList = done.map (itmH P w) ∧ s' = { s with toks := s.toks + (nkD done - 1) })
    _ ?_ ?_ _ _ ⟨[], ks, rfl, hi, rfl, rfl⟩
  · rintro x rest b s' ⟨done, left, rfl, hl, hb, rfl⟩
    cases hl with
    | @cons k _ ks' _ h1 hl' =>
      have e : s.toks + (nkD done - 1) + itmD k = s.toks + (nkD (done ++ [k]) - 1) := by
        rw [nkD_snoc]
        have : 1 ≤ nkD done := by
          cases done with
          | nil => exact Nat.le_refl _
          | cons i r => show 1 ≤ itmD i + nkD r; cases i <;> (dsimp only [itmD]; omega)
        omega
      refine wpAny_bind (itm_hash (k := k) (by show A.units + 1 + 1 < cLine; omega) h1 ?_)
      first
        | exact wpAny_pure ⟨done ++ [k], ks', by simp, hl', by simp [hb], by rw [← e]⟩
        | exact wpAny_bind (wpAny_pure (wpAny_pure ⟨done ++ [k], ks', by simp, hl', by simp [hb], by rw [← e]⟩))
  · rintro b s' ⟨done, left, rfl, hl, hb, rfl⟩
    cases hl
    rw [List.append_nil] at h
    show wpAny _ _ (retInt (Builtin.Tuple.tupleHashOf b.toList)) _ _ _
    rw [hb]
    refine wpAny_ret_mkInt ?_
    have e : s.toks + (nkD done - 1) + 1 = s.toks + nkD done := by
      have : 1 ≤ nkD done := by
        cases done with
        | nil => exact Nat.le_refl _
        | cons i r => show 1 ≤ itmD i + nkD r; cases i <;> (dsimp only [itmD]; omega)
      omega
    show wpAny _ _ (if (decide (-(2 : Int) ^ 63 ≤ Builtin.Tuple.tupleHashOf (done.map (itmH P w))) && decide (Builtin.Tuple.tupleHashOf (done.map (itmH P w)) < 2 ^ 63)) = true then _ else _) Q E _
    unfold nkH reduceHash at h
    by_cases hr : (decide (-(2 : Int) ^ 63 ≤ Builtin.Tuple.tupleHashOf (done.map (itmH P w))) && decide (Builtin.Tuple.tupleHashOf (done.map (itmH P w)) < 2 ^ 63)) = true
    · rw [if_pos hr]
      rw [if_pos hr] at h
      exact wpAny_pure (by rw [← e] at h; exact h)
    · rw [if_neg hr]
      rw [if_neg hr] at h
      exact wpAny_bind (wpAny_rule (wpAny_pure (by rw [← e] at h; exact h)))
theorem nk_eq_tree {x y : List Itm} {a b : Addr} {Pf : Fin → Shared → Prop} (hu : A.units + 1 < cLine) (hx : IsN P w s.heap x a) (hy : IsN P w s.heap y b) (h : Pf (.done (.ret (.bool (decide (x = y))))) s) :
    wpAny (model P w) A (Builtin.«tuple.__eq__» ⟨[.ref a, .ref b], []⟩) Pf E s := by
  have hTb := hy.typeIs
  obtain ⟨oa, xs, na, hoa, _, hda, hia⟩ := hx
  obtain ⟨ob, ys, nb, hob, _, hdb, hib⟩ := hy
  show wpAny _ _ (isInstance (.ref b) (.type "tuple") >>= _) _ _ s
  refine wpAny_bind (wpAny_isInstance hTb isSubtype_tuple_tuple ?_)
  simp only [Bool.not_true, Bool.false_eq_true, if_false]
  refine wpAny_bind (wpAny_tupleItemsOf hoa hda ?_)
  refine wpAny_bind (wpAny_tupleItemsOf hob hdb ?_)
  refine wpAny_bind ?_
  refine wpAny_forIn_list _
    (fun rest r s' => r.1 = none ∧ s' = s ∧ ∃ x' y' xs' ys', rest = List.zip xs' ys' ∧ Paired (itmIs P w s.heap) x' xs' ∧ Paired (itmIs P w s.heap) y' ys' ∧ decide (x' = y') = decide (x = y) ∧ (xs'.length == ys'.length) = (xs.size == ys.size))
    _ ?_ ?_ _ _ ⟨rfl, rfl, x, y, xs.toList, ys.toList, rfl, hia, hib, rfl, by simp⟩
  · rintro ⟨u, v⟩ rest r s' ⟨hr, rfl, x', y', xs', ys', hz, hx', hy', hdec, hlen⟩
    cases hx' with
    | nil => simp at hz
    | @cons k1 u' x'' xs'' h1 hx'' =>
      cases hy' with
      | nil => simp at hz
      | @cons k2 v' y'' ys'' h2 hy'' =>
        simp only [List.zip_cons_cons, List.cons.injEq, Prod.mk.injEq] at hz
        obtain ⟨⟨rfl, rfl⟩, rfl⟩ := hz
        refine wpAny_bind (itm_eq (x := k1) (y := k2) hu h1 h2 ?_)
        by_cases hk : k1 = k2
        · subst hk
          rw [decide_eq_true rfl]
          simp only [Bool.not_true, Bool.false_eq_true, if_false]
          refine wpAny_pure ⟨rfl, rfl, x'', y'', xs'', ys'', rfl, hx'', hy'', ?_, by simpa using hlen⟩
          rw [← hdec]
          by_cases hxy : x'' = y''
          · simp [hxy]
          · simp [hxy]
        · rw [decide_eq_false hk]
          simp only [Bool.not_false, if_true]
          have hf : decide (x = y) = false := by rw [← hdec]; simp [hk]
          rw [hf] at h
          exact wpAny_bind (wpAny_pure (wpAny_pure (wpAny_pure h)))
  · rintro ⟨r1, r2⟩ s' ⟨hr, rfl, x', y', xs', ys', hz, hx', hy', hdec, hlen⟩
    simp only at hr
    subst hr
    refine wpAny_pure ?_
    have hfin : (xs.size == ys.size) = decide (x = y) := by
      rw [← hdec, ← hlen]
      cases hx' with
      | nil =>
        cases hy' with
        | nil => simp
        | cons _ _ => simp
      | cons _ _ =>
        cases hy' with
        | nil => simp
        | cons _ _ => simp at hz
    show Pf (.done (.ret (.bool (xs.size == ys.size)))) s'
    rw [hfin]; exact h
theorem nk_eq {x y : List Itm} {a b : Addr} {Q : Bool → Shared → Prop} (hu : A.units + 8 < cLine) (hx : IsN P w s.heap x a) (hy : IsN P w s.heap y b) (h : Q (decide (x = y)) s) :
    wpAny (model P w) A (eqBool (.ref a) (.ref b)) Q E s := by
  unfold eqBool
  try with_reducible refine wpAny_holding ?_
  show wpAny _ _ (if (Value.ref a == Value.ref b) = true then _ else _) Q E s
  by_cases hab : (Value.ref a == Value.ref b) = true
  · rw [if_pos hab]
    have e : a = b := by have := eq_of_beq hab; injection this
    subst e
    obtain rfl := hx.inj hy
    exact wpAny_bind (wpAny_rule (wpAny_pure (by simpa using h)))
  · rw [if_neg hab]
    exact wpAny_bind (wpAny_richCompare_same_room (op := .Eq) hx.typeIs hy.typeIs F.slot_tuple_eq
      (wpAny_call_entry F.slot_tuple_eq hx.typeIs F.entry_tuple_eq (nk_eq_tree (by show A.units + 1 + 1 < cLine; omega) hx hy ⟨_, rfl, (fun e => nomatch e), wpAny_truthy_bool h⟩) (F.args_tuple_eq_2 _ _)) (by omega))
end
def nkKind (P : Program) (w : World) : HeapKind P w (List Itm) where
  is := IsN P w
  hash := nkH P w
  draws := nkD
  room := fun A => A.units + 8 < cLine
  inj := fun hx hy => hx.inj hy
  keeps := fun x ho hd hs => x.keeps ho hd hs
  pyHash := fun hu hk h => nk_hash hu hk h
  eqBool := fun hu hx hy h => nk_eq hu hx hy h
  quiet := fun hk h => nk_quiet hk h
end NK

set_option Elab.async false
set_option linter.all false
set_option maxRecDepth 100000
set_option maxHeartbeats 4000000
namespace NK
open PySem PySem.Spec PyProof.Rows L2

abbrev KVs := List (List Itm × Addr × V)
def RelT : KVs → List (List Itm × Addr × Value) → Prop := Paired fun p q => p.1 = q.1 ∧ p.2.1 = q.2.1 ∧ RelV p.2.2 q.2.2
/-- a dict with such keys, by its one object -/
def ndP (P : Program) (w : World) (a : Addr) (kvs : KVs) (h : Heap) : Prop :=
  kvs.length ≤ sizeLine ∧ (a == sysModules) = false ∧ ∃ xs, RelT kvs xs ∧ ∃ o es ep, h.get? a = some o ∧ o.ExactDict ∧ o.data = .dict es ep ∧ es.toList = xs.map (entryOfKey (nkKind P w)) ∧ (xs.map (·.1)).Nodup
def ND (P : Program) (w : World) (a : Addr) (kvs : KVs) : HO := .ext (ndP P w a kvs)
def ItmAt (H : Hp) : Itm → V → Prop
  | .inl k, v => v = kV k
  | .inr ks, v => ∃ b, v = .ref b ∧ H b = some (.tup (ks.map kV))
/-- the tuple at b is the key k -/
def KeyAt (H : Hp) (k : List Itm) (b : Addr) : Prop := ∃ vs, H b = some (.tup vs) ∧ Paired (ItmAt H) k vs
def Keyed (H : Hp) (kvs : KVs) : Prop := ∀ p ∈ kvs, KeyAt H p.1 p.2.1
def valN (kvs : KVs) (k : List Itm) : Option V := (kvs.find? fun p => decide (p.1 = k)).map (·.2.2)
def putN (kvs : KVs) (k : List Itm) (b : Addr) (v : V) : KVs := if (valN kvs k).isSome then kvs.map (fun p => if p.1 = k then (p.1, p.2.1, v) else p) else kvs ++ [(k, b, v)]

theorem ItmAt.mono {H H' : Hp} (s : Same H H') {i : Itm} {v : V} (h : ItmAt H i v) : ItmAt H' i v := by
  cases i with
  | inl k => exact h
  | inr ks => obtain ⟨b, e, hb⟩ := h; exact ⟨b, e, s _ _ hb⟩
theorem KeyAt.mono {H H' : Hp} (s : Same H H') {k : List Itm} {b : Addr} (h : KeyAt H k b) : KeyAt H' k b := by
  obtain ⟨vs, h1, h2⟩ := h
  exact ⟨vs, s _ _ h1, Paired.mapP h2 fun _ _ z => ItmAt.mono s z⟩
/-- but for one object that is no tuple -/
theorem ItmAt.but {H H' : Hp} {a : Addr} (ha : ∀ vs, H a ≠ some (.tup vs)) (s : ∀ b o, b ≠ a → H b = some o → H' b = some o) {i : Itm} {v : V} (h : ItmAt H i v) : ItmAt H' i v := by
  cases i with
  | inl k => exact h
  | inr ks => obtain ⟨b, e, hb⟩ := h; exact ⟨b, e, s _ _ (fun z => ha _ (z ▸ hb)) hb⟩
theorem KeyAt.but {H H' : Hp} {a : Addr} (ha : ∀ vs, H a ≠ some (.tup vs)) (s : ∀ b o, b ≠ a → H b = some o → H' b = some o) {k : List Itm} {b : Addr} (h : KeyAt H k b) : KeyAt H' k b := by
  obtain ⟨vs, h1, h2⟩ := h
  exact ⟨vs, s _ _ (fun z => ha _ (z ▸ h1)) h1, Paired.mapP h2 fun _ _ z => ItmAt.but ha s z⟩
theorem Keyed.but {H H' : Hp} {a : Addr} (ha : ∀ vs, H a ≠ some (.tup vs)) (s : ∀ b o, b ≠ a → H b = some o → H' b = some o) {kvs : KVs} (h : Keyed H kvs) : Keyed H' kvs := fun p hp => (h p hp).but ha s
theorem Keyed.mono {H H' : Hp} (s : Same H H') {kvs : KVs} (h : Keyed H kvs) : Keyed H' kvs := fun p hp => (h p hp).mono s

section
variable {P : Program} {w : World} {H : Hp} {h : Heap} {a b : Addr} {kvs : KVs} {k : List Itm}
theorem itm_of (ok : HOk P w H h) {i : Itm} {v : V} {u : Value} (hi : ItmAt H i v) (r : RelV v u) : itmIs P w h i u := by
  cases i with
  | inl k => cases hi; exact kV_is (P := P) (w := w) r
  | inr ks =>
    obtain ⟨b, rfl, hb⟩ := hi
    cases r
    exact ⟨b, rfl, key_of ok hb⟩
theorem itms_of (ok : HOk P w H h) {is : List Itm} {vs : List V} (hi : Paired (ItmAt H) is vs) : ∀ {us : List Value}, Vals vs us → Paired (itmIs P w h) is us := by
  induction hi with
  | nil => intro us r; cases r; exact .nil
  | cons h1 _ ih => intro us r; cases r with | cons r1 r2 => exact .cons (itm_of ok h1 r1) (ih r2)
theorem isN_of (ok : HOk P w H h) (hk : KeyAt H k b) : IsN P w h k b := by
  obtain ⟨vs, hb, hi⟩ := hk
  obtain ⟨_, its, r, o, h1, h2, n, h3⟩ := (show ObjOk P w H h b (.tup vs) from ok b _ hb)
  exact ⟨o, its.toArray, n, h1, h2, h3, by simpa using itms_of ok hi r⟩
theorem nd_of (ok : HOk P w H h) (e : H a = some (ND P w a kvs)) (kd : Keyed H kvs) : kvs.length ≤ sizeLine ∧ (a == sysModules) = false ∧ ∃ xs, RelT kvs xs ∧ h.DictOfH (nkKind P w) a xs := by
  obtain ⟨z, y, xs, r, o, es, ep, h1, h2, h3, h4, h5⟩ := (show ObjOk P w H h a (ND P w a kvs) from ok a _ e).1
  refine ⟨z, y, xs, r, o, es, ep, h1, h2, h3, h4, fun x hx => ?_, h5⟩
  have all : ∀ {l : KVs} {m : List (List Itm × Addr × Value)}, RelT l m → (∀ p ∈ l, KeyAt H p.1 p.2.1) → ∀ x ∈ m, (nkKind P w).is h x.1 x.2.1 := by
    intro l m q
    unfold RelT at q
    induction q with
    | nil => intro _ x hx; exact nomatch hx
    | @cons p q ps qs hq t ih =>
      intro kd x hx
      rcases List.mem_cons.mp hx with e | hx
      · subst e
        rw [← hq.1, ← hq.2.1]
        exact isN_of ok (kd p List.mem_cons_self)
      · exact ih (fun p hp => kd p (List.mem_cons_of_mem _ hp)) x hx
  exact all r kd x hx
theorem nd_new {H' : Hp} {h' : Heap} {xs : List (List Itm × Addr × Value)} (z : kvs.length ≤ sizeLine) (y : (a == sysModules) = false) (r : RelT kvs xs) (dd : h'.DictOfH (nkKind P w) a xs) : ObjOk P w H' h' a (ND P w a kvs) := by
  obtain ⟨o, es, ep, h1, h2, h3, h4, _, h5⟩ := dd
  refine ⟨⟨z, y, xs, r, o, es, ep, h1, h2, h3, h4, h5⟩, ⟨o, h1⟩, ?_⟩
  rintro g1 g2 ⟨z, y, xs, r, o, es, ep, h1, h2⟩ k
  exact ⟨z, y, xs, r, o, es, ep, k o h1, h2⟩
theorem rel_val {xs : List (List Itm × Addr × Value)} (r : RelT kvs xs) (k : List Itm) : RelO (valN kvs k) ((atKey xs k).map (·.2)) := by
  unfold RelT at r
  induction r with
  | nil => exact True.intro
  | @cons p q ps qs h t ih =>
    obtain ⟨h1, _, h2⟩ := h
    unfold valN atKey at *
    by_cases e : p.1 = k
    · have e' : q.1 = k := h1.symm.trans e
      simp only [List.find?_cons, decide_eq_true e, decide_eq_true e', Option.map_some]
      exact h2
    · have e' : ¬ q.1 = k := fun z => e (h1.trans z)
      simp only [List.find?_cons, decide_eq_false e, decide_eq_false e']
      exact ih
theorem rel_put {xs : List (List Itm × Addr × Value)} (r : RelT kvs xs) (k : List Itm) {b : Addr} {v : V} {u : Value} (rv : RelV v u) : RelT (putN kvs k b v) (storedH xs k b u) := by
  have e : (valN kvs k).isSome = (atKey xs k).isSome := by rw [(rel_val r k).isSome_eq, Option.isSome_map]
  unfold putN storedH
  rw [e]
  by_cases q : (atKey xs k).isSome = true
  · rw [if_pos q, if_pos q]
    unfold RelT at r ⊢
    clear e q
    induction r with
    | nil => exact .nil
    | @cons p q ps qs h t ih =>
      rw [List.map_cons, List.map_cons]
      refine .cons ?_ ih
      obtain ⟨h1, h2, h3⟩ := h
      unfold putAt
      by_cases e : p.1 = k
      · rw [if_pos e, if_pos (h1.symm.trans e)]; exact ⟨h1, h2, rv⟩
      · rw [if_neg e, if_neg (fun z => e (h1.trans z))]; exact ⟨h1, h2, h3⟩
  · rw [if_neg q, if_neg q]
    unfold RelT at r ⊢
    exact Paired.snoc r ⟨rfl, rfl, rv⟩
theorem putN_length (kvs : KVs) (k : List Itm) (b : Addr) (v : V) : (putN kvs k b v).length ≤ kvs.length + 1 := by
  unfold putN
  split
  · rw [List.length_map]; omega
  · rw [List.length_append, List.length_singleton]
    exact Nat.le_refl _
end

/-! ### rules -/
section
variable {X : Cx}
/-- {} -/
def tNNew (P : Program) (w : World) : TE := fun _ H Q => ∀ p, H p = none → Q (.ref p) (upd H p (ND P w p []))
theorem pe_nnew {pos : Pos} : PE X (.Dict [] [] pos) (tNNew X.prog X.w) := ⟨fun pins s σ H Q I h => by
  have dd := Heap.DictOfH.new (knd := nkKind X.prog X.w) s.heap
  refine wpAny_Dict_empty ⟨.ref s.heap.objs.size, _, I.laid (a := s.heap.objs.size) (o := ND X.prog X.w s.heap.objs.size []) (t' := s.toks) (fun _ _ q => Heap.get?_push_of_some _ q) (Nat.le_refl _)
    (nd_new (Nat.zero_le _) (beq_eq_false_iff_ne.mpr (Ne.symm (Nat.ne_of_lt I.big))) .nil dd), rfl, h _ (I.hok.fresh (Nat.le_refl _))⟩⟩
/-- k not in d -/
def tNNotIn (P : Program) (w : World) (ty td : TE) : TE := fun σ H Q => ty σ H fun y H1 => td σ H1 fun x H2 => ∃ a kvs k b, x = .ref a ∧ y = .ref b ∧ H2 a = some (ND P w a kvs) ∧ Keyed H2 kvs ∧ KeyAt H2 k b ∧ Q (.bl (!(valN kvs k).isSome)) H2
variable {o i value : Expr} {td ty tv : TE} {pos pos' : Pos}
theorem pc_nnotin (hu : X.A.units + 16 < cLine) (hi : PE X i ty) (ho : PE X o td) : PC X .NotIn i o (tNNotIn X.prog X.w ty td) := by
  refine ⟨fun pins s σ H Q I h => ?_⟩
  refine thn (hi.run pins s σ H _ I h) fun iv s1 ⟨y, H1, I1, ry, q1⟩ => thn (ho.run pins s1 σ H1 _ I1 q1) fun u s2 ⟨x, H2, I2, rx, a, kvs, k, b, ex, ey, e, kd, hk, q2⟩ => ?_
  subst ex ey
  obtain rfl : u = Value.ref a := rx
  obtain rfl : iv = Value.ref b := ry
  obtain ⟨z, hd, xs, rel, dd⟩ := nd_of I2.hok e kd
  refine wpAny_notIn_heap (knd := nkKind X.prog X.w) (by show X.A.units + 1 + 8 < cLine; omega) (isN_of I2.hok hk) hd dd ?_
  have q := (rel_val rel k).isSome_eq
  rw [Option.isSome_map] at q
  rw [← q]
  exact ⟨.bl (!(valN kvs k).isSome), H2, I2.tok _, rfl, q2⟩
/-- d[k] -/
def tNGet (P : Program) (w : World) (td ty : TE) : TE := fun σ H Q => td σ H fun x H1 => ty σ H1 fun y H2 => ∃ a kvs k b v, x = .ref a ∧ y = .ref b ∧ H2 a = some (ND P w a kvs) ∧ Keyed H2 kvs ∧ KeyAt H2 k b ∧ valN kvs k = some v ∧ Q v H2
theorem pe_nget (hu : X.A.units + 16 < cLine) (ho : PE X o td) (hi : PE X i ty) (hs : NoSl i) : PE X (.Subscript o i pos) (tNGet X.prog X.w td ty) := by
  refine ⟨fun pins s σ H Q I h => ?_⟩
  refine subD_of PySem.F.slot_dict_getitem.lookup hs (thn (ho.run pins s σ H _ I h) fun u s1 ⟨x, H1, I1, rx, q1⟩ => thn (hi.run pins s1 σ H1 _ I1 q1) fun iv s2 ⟨y, H2, I2, ry, a, kvs, k, b, v, ex, ey, e, kd, hk, hv, q2⟩ => ?_)
  subst ex ey
  obtain rfl : u = Value.ref a := rx
  obtain rfl : iv = Value.ref b := ry
  obtain ⟨z, hd, xs, rel, dd⟩ := nd_of I2.hok e kd
  obtain ⟨w', hw, rw'⟩ := RelO.some_of (v := v) (o := (atKey xs k).map (·.2)) (by rw [← hv]; exact rel_val rel k)
  obtain ⟨p, hp, hp2⟩ := Option.map_eq_some_iff.mp hw
  refine ⟨dd.typeIs, wpAny_getItem_heap (knd := nkKind X.prog X.w) (by show X.A.units + 1 + 8 < cLine; omega) (isN_of I2.hok hk) dd hp ?_⟩
  rw [hp2]
  exact ⟨v, H2, I2.tok _, rw', q2⟩
/-- d[k] = v -/
def sNPut (P : Program) (w : World) (td ty tv : TE) : TS := fun D σ H => tv σ H fun v H1 => td σ H1 fun x H2 => ty σ H2 fun y H3 => ∃ a kvs k b, x = .ref a ∧ y = .ref b ∧ H3 a = some (ND P w a kvs) ∧ Keyed H3 kvs ∧ KeyAt H3 k b ∧
  kvs.length < sizeLine ∧ D.nx σ (upd H3 a (ND P w a (putN kvs k b v)))
theorem ps_nput (hu : X.A.units + 16 < cLine) (ho : PE X o td) (hi : PE X i ty) (hv : PE X value tv) (hs : swapsWith value (some (.Subscript o i pos')) pos.line X.env = pure false) :
    PS X (.Assign [.Subscript o i pos'] value pos) (sNPut X.prog X.w td ty tv) := by
  refine ⟨fun pins s σ H D I h => ?_⟩
  refine wpAny_Assign_Subscript (thn (hv.run pins s σ H _ I h) fun r s1 ⟨v, H1, I1, rv, q1⟩ => thn (ho.run pins s1 σ H1 _ I1 q1) fun u s2 ⟨x, H2, I2, rx, q2⟩ => thn (hi.run pins s2 σ H2 _ I2 q2) fun iv s3 ⟨y, H3, I3, ry, a, kvs, k, b, ex, ey, e, kd, hk, l, q3⟩ => ?_) hs
  subst ex ey
  obtain rfl : u = Value.ref a := rx
  obtain rfl : iv = Value.ref b := ry
  obtain ⟨z, hd, xs, rel, dd⟩ := nd_of I3.hok e kd
  have hz : xs.length ≤ sizeLine := by
    have := Paired.length (show Paired _ kvs xs from rel)
    omega
  have hl : (putN kvs k b v).length ≤ sizeLine := by
    have := putN_length kvs k b v
    omega
  refine wpAny_setItem_heap (knd := nkKind X.prog X.w) (hsz := hz) (by show X.A.units + 1 + 8 < cLine; omega) (isN_of I3.hok hk) dd fun h' dd' hs => ?_
  have he : ∃ q, h'.get? a = some q := by
    obtain ⟨q, es, ep, hq, _⟩ := dd'
    exact ⟨q, hq⟩
  exact ⟨σ, _, d_write I3 (by rw [e]; exact True.intro) hs he (nd_new hl hd (rel_put rel k rv) dd'), q3⟩
/-- len(d) -/
theorem call_lenN : CallR X (.builtin "len") (fun xs H Q => ∃ a kvs, xs = [V.ref a] ∧ H a = some (ND X.prog X.w a kvs) ∧ Keyed H kvs ∧ Q (.int kvs.length) H) := by
  intro pins s σ H xs us Q I r h
  obtain ⟨a, kvs, rfl, ha, kd, q⟩ := h
  obtain ⟨u, rfl, ru⟩ := vals1 r
  obtain rfl : u = Value.ref a := ru
  obtain ⟨z, hd, ys, rel, dd⟩ := nd_of I.hok ha kd
  have hl : kvs.length = ys.length := Paired.length (show Paired _ kvs ys from rel)
  refine call_len_dictH hd dd (by rw [← hl]; rw [sizeLine_eq] at z; omega) ?_
  rw [← hl]
  exact ⟨.int ((kvs.length : Nat) : Int), H, I.tok _, ⟨_, rfl⟩, q⟩
end
end NK

set_option Elab.async false
set_option linter.all false
set_option maxRecDepth 100000
set_option maxHeartbeats 4000000
/-! Further rules: set(list of ints), a text again and again, enumerate(text), products of great ints. -/
namespace L2
open PySem PySem.Spec PyProof.Rows
abbrev so (w : World) : Obj := { cls := .type "set", dict := none, data := .set #[] 0 (.fresh 0 0 (!w.params.followText "set-order")) }
section
variable {P : Program} {w : World} {A : Around} {E : Value → Shared → Prop} {s : Shared}
set_option maxHeartbeats 8000000 in
theorem call_set_lstI {l : Addr} {items : Array Value} (ns : List Int) {Q : Value → Shared → Prop} (hh : A.handled = none) (hl : s.heap.IsList l items) (hit : IntsAre items.toList ns) (hb : ns.length + 1 < scanBound)
    (h : ∀ (h' : Heap) (tk c : Nat), SetR w h' s.heap.objs.size (fun j => decide (j ∈ ns)) c → c ≤ ns.length → (∀ b o, s.heap.get? b = some o → h'.get? b = some o) → Q (.ref s.heap.objs.size) { s with heap := h', toks := tk }) :
    wpAny (model P w) A (call (.type "set") [.ref l]) Q E s := by
  have hisz : items.size = ns.length := by
    have q := IntsAre.length hit
    rw [Array.length_toList] at q
    exact q
  obtain ⟨c, tl, hmro⟩ := F.called_set.mro
  have hmade := F.called_set.made
  have hsub := F.called_set.sub
  refine wpAny_call (codeAny_of_tree ?_)
  show wpAny _ _ (callAny (.type "set") _) _ _ _
  refine wpAny_pure ⟨Code.quiet_builtin _ (by decide +kernel), codeAny_builtin F.entry_type_call ?_⟩
  rw [Around.under_plain (weight_type_call_type "set" [.ref l] []) rfl]
  have h1 := F.called_set.notType
  have h2 := F.called_set.canCreate
  have hct := F.typeCall_set_1 (.ref l)
  repeat (any_goals (first | assumption | wp_step))

  refine codeAny_mono (code_set_led1 (.ref l) (E := E) (Q₁ := fun obj s₁ => obj = .ref s.heap.objs.size ∧ s₁ = { s with heap := s.heap.push (so w) }) ⟨rfl, rfl⟩) fun r s₁ hr => ?_
  cases r with
  | error e => exact hr
  | ok fl =>
    cases fl with
    | ret obj =>
      obtain ⟨rfl, rfl⟩ := hr
      have hS : (s.heap.push (so w)).get? s.heap.objs.size = some (so w) := Heap.get?_push_size _ rfl
      have hT : Shared.TypeIs { s with heap := s.heap.push (so w) } (.ref s.heap.objs.size) "set" := ⟨_, hS, rfl⟩
      have hli := F.called_set.init.lookup
      have hbi := F.called_set.init.bind (.ref s.heap.objs.size)
      repeat (any_goals (first | assumption | wp_step))

      refine codeAny_mono (codeAny_call_builtin (R := wants (fun r s₂ => r = .none ∧ ∃ h' tk c, s₂ = { s with heap := h', toks := tk } ∧ SetR w h' s.heap.objs.size (fun j => decide (j ∈ ns)) c ∧ c ≤ ns.length ∧
          (∀ b o, s.heap.get? b = some o → h'.get? b = some o)) E) F.called_set.init.plain F.entry_set_init (check_set_init_1 hT ?_)) fun r₂ s₂ hr₂ => ?_
      · obtain ⟨ol, hol, hcl, nl, hdl⟩ := hl
        obtain ⟨ocls, odict, odata, oslots⟩ := ol
        simp only at hcl hdl
        subst hcl; subst hdl
        have hol' : (s.heap.push (so w)).get? l = some { cls := .type "list", dict := odict, data := .seq items nl, slots := oslots } := Heap.get?_push_of_some _ hol
        have hsls := F.sub_list_set
        have hslf := F.sub_list_frozenset
        have hne : (Value.type "list" == Value.type "dict") = false := by decide
        have hl1 : (s.heap.push (so w)).IsList l items := ⟨_, hol', rfl, nl, rfl⟩
        unfold Builtin.«set.__init__» noKeywords Builtin.Frozenset.updateFrom
        generalize hPI : pyIter = PI
        wp_walk
        subst hPI

        refine wpAny_pyIter_list hl1 ?_
        refine wpAny_bind (wpAny_runValue ?_)
        have hlS : l < s.heap.objs.size := Heap.lt_size hol
        have hh3 : A.in1.in1.in1.handled = none := by simp [hh]
        have hz1 : (s.heap.push (so w)).objs.size = s.heap.objs.size + 1 := Heap.size_push ..
        have hneI : l ≠ (s.heap.push (so w)).objs.size := by
          rw [Heap.size_push]; exact Nat.ne_of_lt (Nat.lt_succ_of_lt hlS)
        have hSf : s.heap.objs.size ∉ [(s.heap.push (so w)).objs.size, l] := by
          rw [Heap.size_push]; simp only [List.mem_cons, List.mem_singleton, List.not_mem_nil, or_false, not_or]
          exact ⟨Nat.ne_of_lt (Nat.lt_succ_self _), Nat.ne_of_gt hlS⟩
        have hval : ∀ (i : Nat) (v : Value), items[i]? = some v → ∃ k t, ns[i]? = some k ∧ v = .int k t := fun i v hv => by
          have hi : i < ns.length := by rw [← hisz]; exact (Array.getElem?_eq_some_iff.mp hv).1
          obtain ⟨t, e⟩ := PyProof.Rows.IntsAre.int_at hit i v (by rw [Array.getElem?_toList]; exact hv)
          refine ⟨ns[i], t, List.getElem?_eq_getElem hi, ?_⟩
          rw [e, List.getD_eq_getElem?_getD, List.getElem?_eq_getElem hi] <;> rfl
        refine set_update_ints ((Walks.list hh3 _ l hneI items).toS) s.heap.objs.size
          hSf ns hisz hb hval (items.size - 0) 0 _ (by omega) (Nat.zero_le _)
          ⟨⟨_, Heap.get?_push_size _ rfl, rfl, rfl⟩, (hl1.push _)⟩ ?hS0 ?hR
        case hS0 =>
          have hget : ((s.heap.push (so w)).push { cls := .type "list_iterator", data := .fields #[.ref l, .int 0 0] }).get? s.heap.objs.size
              = some (so w) := Heap.get?_push_of_some _ hS
          exact ⟨0, Nat.le_refl 0, setR_new_at hget⟩
        case hR =>
          intro s' c' hm hc' hS'
          obtain ⟨h', g2, d', tk', os'⟩ := s'
          have eg : g2 = s.gens := hm.gens
          have ed : d' = s.drawn := hm.drawn
          have eo : os' = s.os := hm.os
          subst eg; subst ed; subst eo
          show wpAny _ _ _ _ _ _
          refine wpAny_pure ?_
          show wpAny _ _ (ret Value.none) _ _ _
          rw [hisz] at hc'
          refine wpAny_pure ⟨rfl, h', tk', c', rfl, hS', hc', fun b o e => ?_⟩
          have hb0 : b < s.heap.objs.size := Heap.lt_size e
          have hb1 : b ≠ s.heap.objs.size := Nat.ne_of_lt hb0
          have hb2 : b ≠ (s.heap.push (so w)).objs.size := by
            rw [Heap.size_push]; exact Nat.ne_of_lt (Nat.lt_succ_of_lt hb0)
          exact hm.heap b o (by simp only [List.mem_cons, List.mem_singleton, List.not_mem_nil, or_false, not_or]; exact ⟨hb1, hb2⟩) (Heap.get?_push_of_some _ (Heap.get?_push_of_some _ e))

      · cases r₂ with
        | error e => exact hr₂
        | ok fl₂ =>
          cases fl₂ with
          | ret r =>
            obtain ⟨rfl, h', tk, c', rfl, hS', hc', hk'⟩ := hr₂
            repeat (any_goals (first | assumption | wp_step))
            exact h _ _ _ hS' hc' hk'
          | _ => exact hr₂.elim
    | _ => exact hr.elim

end
section
variable {X : Cx}
/-- set(xs) of a list of ints -/
def rSetLI (K : PySem.W.Frag) (w : World) : List V → Hp → VK → Prop := fun xs H Q => ∃ (l : Addr) (ns : List Int), xs = [V.ref l] ∧ SqL K H l (ns.map V.int) ∧ ns.length ≤ 1000 ∧
  ∀ (a : Addr) (c : Nat), H a = none → c ≤ ns.length → Q (.ref a) (upd H a (SetO w a (fun j => decide (j ∈ ns)) c))
theorem cr_setL (hc : X.calm = true) : CallR X (.type "set") (rSetLI X.K X.w) := by
  intro pins s σ H xs us Q I r h
  obtain ⟨l, ns, rfl, hl, h1, q⟩ := h
  rw [Vals.ref1 r]
  obtain ⟨its, rv, p, hz⟩ := I.list hl
  refine call_set_lstI ns (I.ok.hd hc) (show s.heap.IsList l its.toArray from p.isList) (intsAre_of rv) (by unfold scanBound; omega) fun h' tk c R hcn k => ?_
  exact ⟨.ref _, upd H s.heap.objs.size (SetO X.w s.heap.objs.size (fun j => decide (j ∈ ns)) c), I.laid (t' := tk) k (Nat.le_refl _) (setO_new R), rfl, q _ c (I.hok.fresh (Nat.le_refl _)) hcn⟩
/-- a text so many times -/
def rMulS : R2 := fun x y H Q => ∃ (z : Str) (k : Int), x = .str z ∧ y = .int k ∧ z.length ≤ 1000 ∧ 0 ≤ k ∧ k ≤ 1000 ∧ Q (.str (Txt.mul z k)) H
theorem op_mulS : OpR X (binaryOp .Mult) rMulS := by
  intro pins s σ H x y v u Q I rx ry h
  obtain ⟨z, k, rfl, rfl, h1, h2, h3, q⟩ := h
  obtain ⟨t, rfl⟩ := rx
  obtain ⟨t2, rfl⟩ := ry
  exact SB.mul (mulOk_of 1000 1000 h1 (by omega) (by omega) (by decide) (by decide)) fun t' n => ⟨.str (Txt.mul z k), H, I.tok _, ⟨t', rfl⟩, q⟩
/-- a product whose factors are told by their bits -/
def CMulB (i j : Int) : Prop := Builtin.Int.intBits i ≤ 2097152 ∧ Builtin.Int.intBits j ≤ 64
theorem op_mulB : OpR X (binaryOp .Mult) (rI CMulB fun i j => .int (i * j)) := opI fun i j _ _ _ _ _ hc q => mul_int q (by
  obtain ⟨h1, h2⟩ := (show CMulB i j from hc)
  have e : bitsLine = 134217728 := by decide
  unfold IntMulOk
  intro z
  rw [Bool.and_eq_true] at z
  have z2 := z.2
  unfold Builtin.Int.intTooBig at z2
  have z3 := of_decide_eq_true z2
  rw [e] at z3
  omega)
end
/-! ### enumerate(text) -/
def Ites (x : Str) : It :=
  ⟨fun i _ => i < x.cps.size, fun i H v H' => ∃ T c, v = .ref T ∧ H T = none ∧ H' = upd H T (.tup [.int (i : Nat), .str ⟨#[c]⟩]) ∧ x.cps[i]? = some c, fun i _ => x.cps.size ≤ i⟩
theorem turn_enumS {P : Program} {w : World} {K : PySem.W.Frag} {elts : List Expr} {kk : Nat} {tpos : Pos} (x : Str) (t : Tok) (e it : Addr) (hne : e ≠ it) :
    Turn P w K (.Tuple elts kk tpos) (Ites x) [e, it] e (fun i h => (∃ old, IsEnum h e it ((i : Nat) : Int) old) ∧ i ≤ x.cps.size ∧ h.IsStrIter it (strIterType x) x t i) where
  mem := by simp
  obj := fun i h st b hb => by
    obtain ⟨⟨old, he⟩, _, ⟨o, ho, hc, hd⟩⟩ := st
    have e' : b = e ∨ b = it := by simpa using hb
    rcases e' with z | z
    · rw [z]; exact ⟨_, he, fun v q => nomatch q⟩
    · rw [z]; exact ⟨o, ho, fun v q => by rw [hd] at q; cases q⟩
  keep := fun i h h' st k => let ⟨⟨old, he⟩, hi, ⟨o, ho, r⟩⟩ := st; ⟨⟨old, k e (by simp) _ he⟩, hi, ⟨o, k it (by simp) _ ho, r⟩⟩
  item := by
    intro X hP hw hK hc i pins s σ H E I hf st hg
    subst hP hw hK
    obtain ⟨⟨old, he⟩, hi, hit⟩ := st
    have hel : e < s.heap.objs.size := Heap.lt_size he
    have hil : it < s.heap.objs.size := by obtain ⟨_, q, _⟩ := hit; exact Heap.lt_size q
    have hh : X.A.in1.handled = none := by have q := I.ok.hd hc; simpa using q
    have D : Draws X.prog X.w X.A.in1 it [it] x.cps.size (SignAt x) (fun i h => h.IsStrIter it (strIterType x) x t i) := by
      unfold strIterType
      cases x.cps.all (· < 128)
      · exact Draws.strWide hh it x t
      · exact Draws.strAscii hh it x t
    refine wpAny_pyNext_enum_itemD D he hit hg hne (by simpa using hne) fun u h' tk hu ho hit' hT hsz hk => ?_
    obtain ⟨c, u2, hcx, rfl⟩ := hu
    refine ⟨_, rfl, wpAny_letOwnedTupleGo_enum (s := { s with heap := h', toks := tk + 1 }) ho fun h'' he' sb => ?_⟩
    have hT2 := (sb.2 _ (Nat.ne_of_gt hel)).trans hT
    have new : ObjOk X.prog X.w (upd H s.heap.objs.size (.tup [.int (i : Nat), .str ⟨#[c]⟩])) h'' s.heap.objs.size (.tup [.int (i : Nat), .str ⟨#[c]⟩]) :=
      ⟨by show 2 ≤ sizeLine; decide, [.int i tk, .str ⟨#[c]⟩ u2], .cons ⟨_, rfl⟩ (.cons ⟨_, rfl⟩ .nil), ⟨_, hT2, rfl, _, rfl⟩⟩
    have I1 : Inv X pins σ (upd H s.heap.objs.size (.tup [.int (i : Nat), .str ⟨#[c]⟩])) { s with heap := h'', toks := tk + 1 } :=
      I.turnedNew (ch := [e, it]) (fun b ob hb q => (sb.2 b (fun z => hb (by simp [z]))).trans (hk b ob (fun z => hb (by simp [z])) (fun z => hb (by simp [z])) q)) hf (Nat.le_refl _) new
    refine ⟨.ref s.heap.objs.size, _, I1, rfl, ⟨_, c, rfl, I.hok.fresh (Nat.le_refl _), rfl, hcx⟩, ⟨⟨.str ⟨#[c]⟩ u2, ?_⟩, hg, ?_⟩, fun b hb => ?_⟩
    · have e1 : ((i + 1 : Nat) : Int) = (i : Int) + 1 := by omega
      rw [e1]; exact he'
    · obtain ⟨o, ho2, r⟩ := hit'
      exact ⟨o, (sb.2 it (Ne.symm hne)).trans ho2, r⟩
    · have hb' : b < s.heap.objs.size := by
        have e' : b = e ∨ b = it := by simpa using hb
        rcases e' with z | z
        · rw [z]; exact hel
        · rw [z]; exact hil
      rw [upd_ne (Nat.ne_of_lt hb')]
      exact (hf b hb).1
  done := by
    intro X hP hw hK hc i pins s σ H E I hf st hg
    subst hP hw hK
    obtain ⟨⟨old, he⟩, hi, hit⟩ := st
    have hh : X.A.in1.handled = none := by have q := I.ok.hd hc; simpa using q
    have D : Draws X.prog X.w X.A.in1 it [it] x.cps.size (SignAt x) (fun i h => h.IsStrIter it (strIterType x) x t i) := by
      unfold strIterType
      cases x.cps.all (· < 128)
      · exact Draws.strWide hh it x t
      · exact Draws.strAscii hh it x t
    obtain ⟨f0, f1, f2, f3, f4, f5⟩ := hf it (by simp)
    have ei : i = x.cps.size := Nat.le_antisymm hi hg
    subst ei
    exact wpAny_pyNext_enum_endD D he hit fun h' eb => ⟨rfl, I.turned (t' := s.toks) (fun b o hb q => eb b o hb q) f0 f1 f3 f4 f5⟩
  self := fun A i s Q E st h => let ⟨⟨_, he⟩, _⟩ := st; wpAny_pyIter_enum he h
def iEnumS (ta : TA) : TI := fun σ H R => ta σ H fun vs H1 => ∃ x, vs = [.str x] ∧ R (Ites x) H1
theorem pi_enumS {X : Cx} {e : Expr} {ta : TA} {p pos tpos : Pos} {elts : List Expr} {kk : Nat} (hg : Gl X "enumerate") (hm : X.mg "enumerate" = none) (ha : PA X [e] ta) (hs : starEach [e] X.env = [(false, eval e X.env)] := by rfl) :
    PI X (.Tuple elts kk tpos) (.Call (.Name "enumerate" p) [e] [] pos) (iEnumS ta) := by
  refine ⟨fun pins s σ H R I h => ?_⟩
  refine Call_ (ld_blt I hg hm boot_enumerate (PyProof.Rows.callWith_type1 (thn (ha.run pos pins s σ H _ I h) fun us s1 ⟨vs, H1, I1, r1, q1⟩ => ?_) hs rfl))
  obtain ⟨x, ex, q⟩ := q1
  subst ex
  cases r1 with
  | cons r rr =>
    cases rr
    obtain ⟨t, rfl⟩ := r
    refine call_enumerate_str fun h' he hit hsz hk => wpAny_pyIter_enum he ?_
    have I2 : Inv X pins σ H1 { s1 with heap := h' } := I1.kept (t' := s1.toks) hk
    refine ⟨s1.heap.objs.size + 1, [s1.heap.objs.size + 1, s1.heap.objs.size], _, _, H1, rfl, I2, turn_enumS x t (s1.heap.objs.size + 1) s1.heap.objs.size (Nat.succ_ne_self _), ⟨⟨.none, he⟩, Nat.zero_le _, hit⟩, fun b hb => ?_, q⟩
    have e' : b = s1.heap.objs.size + 1 ∨ b = s1.heap.objs.size := by simpa using hb
    have hle : s1.heap.objs.size ≤ b := by
      rcases e' with z | z
      · rw [z]; exact Nat.le_add_right _ _
      · rw [z]; exact Nat.le_refl _
    exact I1.fpOk hle (I1.hok.fresh hle)
end L2

set_option Elab.async false
set_option linter.all false
set_option maxRecDepth 100000
set_option maxHeartbeats 4000000
/-! len(o), the class has its own __len__ -/
namespace L2
open PySem PySem.Spec PyProof.Rows
def rLenOwn (C : Addr) (sp : Sp) (E : XK) : List V → Hp → VK → Prop := fun xs H Q => ∃ a dx fs, xs = [.ref a] ∧ H a = some (.ins C dx fs) ∧ sp [.ref a] H (fun v H' => ∃ n : Nat, v = .int (n : Int) ∧ n ≤ sizeLine ∧ Q (.int (n : Int)) H') E
theorem call_lenOwn {X : Cx} {CX : CXT} {k : Nat} {C f : Addr} {fd : FuncData} {ps : List Str} {sp : Sp} {E : XK} (F : FnOk X.prog X.w X.K X.mg X.base CX k f fd ps sp) (hm : Meth X.K C "__len__" f) (hb : Binds X.K fd ps []) (hx : Passes CX X E) (hr : Room (k + 1) X.A) :
    CallR X (.builtin "len") (rLenOwn C sp E) := by
  intro pins s σ H xs us Q I r h
  obtain ⟨a, dx, fs, rfl, ha, hsp⟩ := h
  obtain ⟨u, rfl, rx⟩ := vals1 r
  cases rx
  obtain ⟨mA, J, _⟩ := ins_get I.hok ha
  obtain ⟨od, J, _⟩ := J.look
  refine Calls.call_function_entry kind_len plain_len entry_len (args_len1 _) ?_
  unfold Builtin.«len»
  refine wpAny_bind (m := oneArg "len" _) (wpAny_pure ?_)
  have e0 : Env0 X.prog X.w X.K X.mg X.base X.A.in1 X.stack s H := by
    have e := I.env0
    exact ⟨e.frames, e.mod, e.bs, e.bsz, e.funs, e.frf, e.hok, e.bare⟩
  have hl := F.len _ _ _ _ hsp
  have r2 : Vals [V.ref a] [Value.ref a] := .cons rfl .nil
  have body : wpAny (model X.prog X.w) X.A.in1 (call (.ref f) [.ref a]) (fun v s' => ∃ n : Nat, (∃ t, v = .int (n : Int) t) ∧ n ≤ sizeLine ∧ ∃ H', Inv X pins σ H' s' ∧ Q (.int (n : Int)) H') X.xe s := by
    refine wpAny_call (codeAny_mono (F.run X.A.in1 X.stack s H ⟨[.ref a], []⟩ [.ref a] [.ref a] _ E hr.in1 e0 (by
      have := hb s [.ref a] I.kIn (by simpa using hl)
      simpa using this) r2 hsp) fun r s' hq => ?_)
    cases r with
    | error e => exact hx pins σ H s e s' I hq
    | ok fl =>
      cases fl with
      | ret w =>
        obtain ⟨z, H', I', rz, n, ez, hn, q⟩ := I.after hq
        subst ez
        exact ⟨n, rz, hn, H', I', q⟩
      | next => exact False.elim hq
      | brk => exact False.elim hq
      | cont => exact False.elim hq
  have special : ∀ {Q' : Option Value → Shared → Prop}, wpAny (model X.prog X.w) X.A.in1 (call (.ref f) [.ref a]) (fun v s' => Q' (some v) s') X.xe s → wpAny (model X.prog X.w) X.A.in1 (callSpecial? (.ref a) (Str.ofString "__len__")) Q' X.xe s := fun q => by
    unfold callSpecial? specialOf
    refine wpAny_bind (wpAny_bind (J.type.here ((PySem.W.looks_findIn I.kIn hm.at_).here ?_)))
    refine wpAny_holding ?_
    refine wpAny_bind ((PySem.W.bind_fn I.kIn _ (beq_iff_eq.mp hm.fn)).here ?_)
    exact wpAny_bind (wpAny_mono q (fun v s' z => wpAny_pure z) fun _ _ z => z)
  refine wpAny_bind (m := callSpecial? (.ref a) (Str.ofString "__len__")) (special (wpAny_mono body (fun v s' hv => ?_) fun _ _ z => z))
  obtain ⟨n, ⟨t, rfl⟩, hn, H', I', q⟩ := hv
  rw [sizeLine_eq] at hn
  refine wpAny_bind (wpAny_holding (wpAny_pure ?_))
  refine wpAny_bind (wpAny_letGo ?_)
  show wpAny _ _ (if ((n : Nat) : Int) < 0 then _ else _) _ _ _
  rw [if_neg (by omega)]
  show wpAny _ _ (if ((n : Nat) : Int) ≥ 2 ^ 63 then _ else _) _ _ _
  rw [if_neg (by omega)]
  exact wpAny_bind (wpAny_mkInt (wpAny_pure ⟨_, rfl, .int (n : Int), H', I'.tok _, ⟨_, rfl⟩, q⟩))
end L2

set_option Elab.async false
set_option linter.all false
set_option maxRecDepth 100000
set_option maxHeartbeats 4000000
namespace W8
open PySem L2
def top (i : Nat) : Stmt := PySem.Challenge.pw_turtlestold_k82_rounds_of_a_game.main.body.getD i (.Pass ⟨0, 0, 0, 0⟩)

/-! ### heaps but for one object -/
def But (a : Addr) (H H' : Hp) : Prop := ∀ b o, b ≠ a → H b = some o → H' b = some o
theorem But.refl (a : Addr) (H : Hp) : But a H H := fun _ _ _ h => h
theorem But.trans {a : Addr} {H H1 H2 : Hp} (x : But a H H1) (y : But a H1 H2) : But a H H2 := fun b o n h => y b o n (x b o n h)
theorem But.upd {a : Addr} {H : Hp} {o : HO} : But a H (upd H a o) := fun b u n h => by rw [upd_ne n]; exact h
theorem But.of {a : Addr} {H H' : Hp} (s : Same H H') : But a H H' := fun b o _ h => s b o h
theorem same_new {H : Hp} {p : Addr} (h : H p = none) (o : HO) : Same H (L2.upd H p o) := fun b u q => by rw [upd_ne (ne_of_none q h)]; exact q
theorem But.new {a p : Addr} {H : Hp} (h : H p = none) (o : HO) : But a H (L2.upd H p o) := But.of (same_new h o)
/-- what was new before and stays so -/
theorem But.seq {K : PySem.W.Frag} {a p : Addr} {H H' : Hp} {xs : List V} (x : But a H H') (n : p ≠ a) (h : SqL K H p xs) : SqL K H' p xs := by
  rcases h with (h | ⟨o, h⟩) | h
  · exact .inl (.inl (x _ _ n h))
  · exact .inl (.inr ⟨o, x _ _ n h⟩)
  · exact .inr h
theorem But.tup {K : PySem.W.Frag} {a p : Addr} {H H' : Hp} {xs : List V} (x : But a H H') (n : p ≠ a) (h : SqT K H p xs) : SqT K H' p xs := by
  rcases h with (h | ⟨o, h⟩) | h
  · exact .inl (.inl (x _ _ n h))
  · exact .inl (.inr ⟨o, x _ _ n h⟩)
  · exact .inr h
theorem sz {n : Nat} (h : n ≤ 100000) : n ≤ sizeLine := Nat.le_trans h (by decide)

theorem at_map {α : Type} (g : α → V) {cs : List α} {i : Int} (h0 : 0 ≤ i) (h : i < (cs.length : Int)) : ∃ z, z ∈ cs ∧ cs[i.toNat]? = some z ∧ atI (cs.map g) i = some (g z) := by
  have hi : i.toNat < cs.length := by omega
  have ei : i = (i.toNat : Int) := by omega
  refine ⟨cs[i.toNat], List.getElem_mem hi, List.getElem?_eq_getElem hi, ?_⟩
  have q : atI (cs.map g) (i.toNat : Int) = some (g cs[i.toNat]) := atI_nat (by rw [List.getElem?_map, List.getElem?_eq_getElem hi] <;> rfl)
  rw [← ei] at q
  exact q
theorem int_eq {i j : Int} (h : decide (V.int i = V.int j) = true) : i = j := by
  have e := of_decide_eq_true h
  injection e
theorem int_ne {i j : Int} (h : ¬ decide (V.int i = V.int j) = true) : i ≠ j := fun e => h (decide_eq_true (by rw [e]))
theorem dec_ff {p : Prop} [Decidable p] (h : ¬ decide p = true) : ¬ p := fun e => h (decide_eq_true e)
/-! ### the list that draws -/
def stL (p : Addr) (i v l m : Int) : List V := [.ref p, .int i, .int v, .int l, .int m]
structure StAt (K : PySem.W.Frag) (H : Hp) (a p : Addr) (cs : List Int) (i v l m : Int) : Prop where
  h : H a = some (.lst (stL p i v l m))
  c : H p = some (.lst (cs.map V.int))
  ne : p ≠ a
  b : ∀ z ∈ cs, Builtin.Int.intBits z ≤ 1048576
  n : cs.length ≤ 63
  i0 : 0 ≤ i
  v0 : 0 ≤ v
  m0 : m = 1 ∨ v < 2147483647
def StOk (K : PySem.W.Frag) (H : Hp) (a p : Addr) : Prop := ∃ cs i v l m, StAt K H a p cs i v l m
theorem StAt.put {K : PySem.W.Frag} {H : Hp} {a p : Addr} {cs : List Int} {i v l m i' v' l' m' : Int} (s : StAt K H a p cs i v l m) (xs : List V) (e : xs = stL p i' v' l' m') (hi : 0 ≤ i') (hv : 0 ≤ v') (hm : m' = 1 ∨ v' < 2147483647) : StAt K (upd H a (.lst xs)) a p cs i' v' l' m' :=
  ⟨by rw [upd_same, e], But.upd _ _ s.ne s.c, s.ne, s.b, s.n, hi, hv, hm⟩

/-! ### a def that may be called by its name -/
structure Cal (P : Program) (w : World) (K : PySem.W.Frag) (mg : Str → Option Value) (base : Heap) (x : Str) (k : Nat) (ps : List Str) (sp : Sp) : Prop where
  ex : ∃ (f : Addr) (fd : FuncData), FnOk P w K mg base CX0 k f fd ps sp ∧ mg x = some (.ref f) ∧ PySem.W.keepIn K (.ref f) = true ∧ Binds K fd ps []
section
variable {X : Cx} {x : Str} {k j : Nat} {ps : List Str} {sp : Sp} {p pos : Pos} {e : Expr} {es : List Expr} {t : TA}
theorem pcall (C : Cal X.prog X.w X.K X.mg X.base x k ps sp) (hr : Room j X.A) (ha : PA X (e :: es) t) (hk : k ≤ j := by decide) (hg : Gl X x := by rfl) (hdb : (x == ("__debug__" : Str)) = false := by decide)
    (he : starEach (e :: es) X.env = (false, eval e X.env) :: starEach es X.env := by rfl) (hpl : (backTo pos (starEach es X.env)).any (·.1) = false := by rfl) : PE X (.Call (.Name x p) (e :: es) [] pos) (tCall sp [] E0 t) := by
  obtain ⟨f, fd, G, hm, kp, b⟩ := C.ex
  exact pe_call G (hr.mono hk) hg hm kp b .nil pass0 ha hdb he hpl
/-- built-ins by their names -/
theorem pB1 {a : Expr} {ta : TE} {id : String} {r : List V → Hp → VK → Prop} (hc : CallR X (.builtin id) r) (tl : X.mg x = none) (ha : PE X a ta) (hv : bootBuiltins x = some (.builtin id) := by decide +kernel) (hg : Gl X x := by rfl) (hn : x ≠ "__name__" := by decide)
    (hdb : (x == ("__debug__" : Str)) = false := by decide) (hs : starEach [a] X.env = (false, eval a X.env) :: starEach [] X.env := by rfl) : PE X (.Call (.Name x p) [a] [] pos) (tCB r (tCons ta tNil)) :=
  pe_callB hc hg tl hv (pa_cons ha pa_nil hs) hn hdb hs
theorem pT1 {a : Expr} {ta : TE} {T : String} {r : List V → Hp → VK → Prop} (hc : CallR X (.type T) r) (tl : X.mg x = none) (ha : PE X a ta) (hv : bootBuiltins x = some (.type T) := by decide +kernel) (hg : Gl X x := by rfl) (hn : x ≠ "__name__" := by decide)
    (hdb : (x == ("__debug__" : Str)) = false := by decide) (hs : starEach [a] X.env = (false, eval a X.env) :: starEach [] X.env := by rfl) : PE X (.Call (.Name x p) [a] [] pos) (tCB r (tCons ta tNil)) :=
  pe_callTy hc hg tl hv (pa_cons ha pa_nil hs) hn hdb hs
def rTupOf (K : PySem.W.Frag) : List V → Hp → VK → Prop := fun xs H Q => ∃ p ys, xs = [.ref p] ∧ ((SqL K H p ys ∧ ∀ l, H l = none → Q (.ref l) (upd H l (.tup ys))) ∨ (SqT K H p ys ∧ Q (.ref p) H))
theorem cr_tupOf : CallR X (.type "tuple") (rTupOf X.K) := call_tuple_of
def rLstOf (K : PySem.W.Frag) : List V → Hp → VK → Prop := fun xs H Q => ∃ p ys, xs = [.ref p] ∧ (SqL K H p ys ∨ SqT K H p ys) ∧ ∀ l, H l = none → Q (.ref l) (upd H l (.lst ys))
theorem cr_lstOf : CallR X (.type "list") (rLstOf X.K) := call_list_of
def rLenOf (K : PySem.W.Frag) : List V → Hp → VK → Prop := fun xs H Q => ∃ p ys, xs = [.ref p] ∧ (SqL K H p ys ∨ SqT K H p ys) ∧ Q (.int ys.length) H
theorem cr_lenOf : CallR X (.builtin "len") (rLenOf X.K) := call_len_seq
variable {a b o : Expr} {ta tb : TE}
abbrev pixL (ha : PE X a ta) (hb : PE X b tb) (hs : PlainIx b := by exact fun _ _ => rfl) : PE X (.Subscript a b pos) (tOp (rIxL X.K) ta tb) := pe_ix ix_list ha hb hs
abbrev pixT (ha : PE X a ta) (hb : PE X b tb) (hs : PlainIx b := by exact fun _ _ => rfl) : PE X (.Subscript a b pos) (tOp (rIxT X.K) ta tb) := pe_ix ix_tup ha hb hs
abbrev pixS (ha : PE X a ta) (hb : PE X b tb) (hs : PlainIx b := by exact fun _ _ => rfl) : PE X (.Subscript a b pos) (tOp rIxS ta tb) := pe_ix ix_str ha hb hs
end

/-! ### texts as lists of codes -/
def S (w : List Nat) : Str := ⟨w.toArray⟩
theorem S_len (w : List Nat) : (S w).length = w.length := rfl
theorem S_app (u v : List Nat) : S u ++ S v = S (u ++ v) := by
  show (⟨u.toArray ++ v.toArray⟩ : Str) = ⟨(u ++ v).toArray⟩
  rw [List.append_toArray]
theorem S_one (c : Nat) : (⟨#[c]⟩ : Str) = S [c] := rfl
theorem S_inj {u v : List Nat} (h : S u = S v) : u = v := by
  have : u.toArray = v.toArray := congrArg Str.cps h
  simpa using this
theorem S_of (z : Str) : z = S z.cps.toList := by
  cases z
  rfl
theorem S_codes (w : List Nat) : (S w).cps.toList = w := rfl
theorem at_S {w : List Nat} {i : Int} (h0 : 0 ≤ i) (h : i < (w.length : Int)) : ∃ c, c ∈ w ∧ w[i.toNat]? = some c ∧ atI (S w).cps.toList i = some c := by
  have hi : i.toNat < w.length := by omega
  have ei : i = (i.toNat : Int) := by omega
  refine ⟨w[i.toNat], List.getElem_mem hi, List.getElem?_eq_getElem hi, ?_⟩
  have q : atI w (i.toNat : Int) = some w[i.toNat] := atI_nat (List.getElem?_eq_getElem hi)
  rw [← ei] at q
  exact q
end W8

set_option Elab.async false
set_option linter.all false
set_option maxRecDepth 100000
set_option maxHeartbeats 4000000
namespace W8
open PySem L2
/-! ### walks of comprehensions by a word over what is made so far -/
section
variable {K : PySem.W.Frag} {body : V → Hp → (Hp → Prop) → Prop} {Qn : Hp → Prop} {H0 : Hp}
theorem walk_t {a : Addr} {xs : List V} (Pv : Nat → Hp → Prop) (h0 : Pv 0 H0) (hl : ∀ i H, Pv i H → SqT K H a xs) (hs : ∀ i x H, xs[i]? = some x → Pv i H → body x H (Pv (i + 1))) (hd : ∀ H, Pv xs.length H → Qn H) :
    ∃ W : Nat → Nat → Hp → Prop, (∃ m, W 0 m H0) ∧ ∀ i m H, W i m H → ((Itt K a).stop i H ∧ Qn H) ∨ ((Itt K a).go i H ∧ ∃ Nx : Hp → Prop, (∀ H', Nx H' → ∃ m', m' < m ∧ W (i + 1) m' H') ∧ ∀ x H', (Itt K a).yld i H x H' → body x H' Nx) := by
  refine ⟨fun i m H => m = xs.length - i ∧ i ≤ xs.length ∧ Pv i H, ⟨xs.length, by simp, Nat.zero_le _, h0⟩, ?_⟩
  rintro i m H ⟨rfl, hi, p⟩
  have q := hl i H p
  by_cases hlt : i < xs.length
  · refine .inr ⟨⟨xs, xs[i], q, by simp [hlt]⟩, Pv (i + 1), fun H' p' => ⟨xs.length - (i + 1), by omega, rfl, hlt, p'⟩, fun x H' y => ?_⟩
    obtain ⟨e, y⟩ := y
    subst e
    exact hs i x _ (y xs q) p
  · have e : i = xs.length := by omega
    subst e
    exact .inl ⟨⟨xs, q, Nat.le_refl _⟩, hd H p⟩
theorem walk_l {a : Addr} {xs : List V} (Pv : Nat → Hp → Prop) (h0 : Pv 0 H0) (hl : ∀ i H, Pv i H → SqL K H a xs) (hs : ∀ i x H, xs[i]? = some x → Pv i H → body x H (Pv (i + 1))) (hd : ∀ H, Pv xs.length H → Qn H) :
    ∃ W : Nat → Nat → Hp → Prop, (∃ m, W 0 m H0) ∧ ∀ i m H, W i m H → ((Itl K a).stop i H ∧ Qn H) ∨ ((Itl K a).go i H ∧ ∃ Nx : Hp → Prop, (∀ H', Nx H' → ∃ m', m' < m ∧ W (i + 1) m' H') ∧ ∀ x H', (Itl K a).yld i H x H' → body x H' Nx) := by
  refine ⟨fun i m H => m = xs.length - i ∧ i ≤ xs.length ∧ Pv i H, ⟨xs.length, by simp, Nat.zero_le _, h0⟩, ?_⟩
  rintro i m H ⟨rfl, hi, p⟩
  have q := hl i H p
  by_cases hlt : i < xs.length
  · refine .inr ⟨⟨xs, xs[i], q, by simp [hlt]⟩, Pv (i + 1), fun H' p' => ⟨xs.length - (i + 1), by omega, rfl, hlt, p'⟩, fun x H' y => ?_⟩
    obtain ⟨e, y⟩ := y
    subst e
    exact hs i x _ (y xs q) p
  · have e : i = xs.length := by omega
    subst e
    exact .inl ⟨⟨xs, q, Nat.le_refl _⟩, hd H p⟩
theorem walk_r {lo : Int} {n : Nat} (Pv : Nat → Hp → Prop) (h0 : Pv 0 H0) (hs : ∀ i H, i < n → Pv i H → body (.int (lo + (i : Nat))) H (Pv (i + 1))) (hd : ∀ H, Pv n H → Qn H) :
    ∃ W : Nat → Nat → Hp → Prop, (∃ m, W 0 m H0) ∧ ∀ i m H, W i m H → ((Itr lo n).stop i H ∧ Qn H) ∨ ((Itr lo n).go i H ∧ ∃ Nx : Hp → Prop, (∀ H', Nx H' → ∃ m', m' < m ∧ W (i + 1) m' H') ∧ ∀ x H', (Itr lo n).yld i H x H' → body x H' Nx) := by
  refine ⟨fun i m H => m = n - i ∧ i ≤ n ∧ Pv i H, ⟨n, by simp, Nat.zero_le _, h0⟩, ?_⟩
  rintro i m H ⟨rfl, hi, p⟩
  by_cases hlt : i < n
  · refine .inr ⟨hlt, Pv (i + 1), fun H' p' => ⟨n - (i + 1), by omega, rfl, hlt, p'⟩, fun x H' y => ?_⟩
    obtain ⟨e, y⟩ := y
    subst e y
    exact hs i _ hlt p
  · have e : i = n := by omega
    subst e
    exact .inl ⟨Nat.le_refl _, hd H p⟩
end
/-- no test stands in the comprehension -/
theorem yes {σ : L2.St} {H : Hp} {A B : Hp → Prop} (h : A H) : tYes σ H (fun b H' => if b = true then A H' else B H') := by
  show if true = true then A H else B H
  rw [if_pos rfl]
  exact h
theorem small_lt {n : Nat} (h : n < 100000) : n < sizeLine := Nat.lt_of_lt_of_le h (by decide)
/-- a value is made by the element of a comprehension, the list at D grows -/
theorem grown {H4 : Hp} {D : Addr} {acc : List V} {y : V} {N : Hp → Prop} (h : H4 D = some (.lst acc)) (hn : acc.length < 100000) (q : N (upd H4 D (.lst (acc ++ [y])))) : ∃ acc', H4 D = some (.lst acc') ∧ acc'.length < sizeLine ∧ N (upd H4 D (.lst (acc' ++ [y]))) :=
  ⟨acc, h, small_lt hn, q⟩
theorem take_succ_map {α : Type} (g : α → V) {xs : List α} {i : Nat} {x : α} (h : xs[i]? = some x) : (xs.take (i + 1)).map g = (xs.take i).map g ++ [g x] := by
  rw [List.take_add_one, h, List.map_append]
  rfl
end W8

set_option Elab.async false
set_option linter.all false
set_option maxRecDepth 100000
set_option maxHeartbeats 4000000
namespace W8
open PySem L2
abbrev sDraw : Stmt := top 32
theorem scDraw : FnScope ["state", "many", "cell", "digit"] ["state", "many"] (defScope sDraw) := ⟨rfl, rfl, rfl, by decide +kernel, rfl, by decide +kernel, by decide +kernel⟩
/-- a number below many, and the drawing list goes on -/
def spDraw (K : PySem.W.Frag) : Sp := fun vs H Q _ => ∃ (a : Addr) (m : Int), vs = [.ref a, .int m] ∧ 1 ≤ m ∧ m ≤ 1000 ∧ ∃ p, StOk K H a p ∧ ∀ r H', 0 ≤ r → r < m → But a H H' → StOk K H' a p → Q (.int r) H'
section
variable {P : Program} {w : World} {K : PySem.W.Frag} {mg : Str → Option Value} {base : Heap}
theorem ok_draw {f : Addr} {fd : FuncData} (F : Fun K "_law_draw" "_law_draw" sDraw f fd) (tl : mg "len" = none) (ti : mg "int" = none) : FnOk P w K mg base CX0 1 f fd ["state", "many"] (spDraw K) := by
  refine F.ok scDraw (fun vs H Q E h => ?_) (fun cdv A outer s H vs Q E hr h => ?_)
  · obtain ⟨a, m, rfl, _⟩ := h
    rfl
  obtain ⟨a, many, rfl, m1, m2, p, ⟨cs, i, v, l, m, S⟩, q⟩ := h
  refine ⟨_, C8.pss_cut (ps_if (PW.pt (pw_and (pt_cmpR op_eq (pixL (pv 0) pe_int) pe_int (nomark _))
        (pw_and1 (pt_cmpR op_lt (pixL (pv 0) pe_int) (pB1 call_len_seq tl (pixL (pv 0) pe_int)) (nomark _)))))
      (pss_cons (ps_set (i := 2) scDraw.nd rfl (Or.inl rfl) (pixL (pixL (pv 0) pe_int) (pixL (pv 0) pe_int)))
        (pss_cons (ps_asg (pe_op op_add (pixL (pv 0) pe_int) pe_int) (pg_sub (pv 0) pe_int set_list))
        (pss_one (ps_if (pt_cmpR op_ge (pv 2) (pe_op op_pow pe_int pe_int) (nomark _))
          (pss_cons (ps_asg (pe_op op_sub (pv 2) (pe_op op_pow pe_int pe_int)) (pg_sub (pv 0) pe_int set_list))
            (pss_cons (ps_asg pe_int (pg_sub (pv 0) pe_int set_list)) (pss_one (ps_asg pe_int (pg_sub (pv 0) pe_int set_list)))))
          (pss_cons (ps_asg (pe_op op_mod (pT1 call_int1 ti (pe_op op_mulB (pv 2) pe_int)) pe_int) (pg_sub (pv 0) pe_int set_list))
            (pss_cons (ps_asg pe_int (pg_sub (pv 0) pe_int set_list)) (pss_one (ps_asg pe_int (pg_sub (pv 0) pe_int set_list)))))))))
      pss_nil)
    (pss_cons (ps_if (pt_cmpR op_eq (pixL (pv 0) pe_int) pe_int (nomark _)) (pss_one (ps_ret pe_int)) pss_nil)
    (pss_cons (ps_asg (pe_op op_sub (pixL (pv 0) pe_int) pe_int) (pg_sub (pv 0) pe_int set_list))
    (pss_cons (ps_if (pt_cmpR op_eq (pixL (pv 0) pe_int) pe_int (nomark _))
      (pss_cons (ps_set (i := 3) scDraw.nd rfl (Or.inl rfl) (pe_op op_mod (pT1 call_int1 ti (pixL (pv 0) pe_int)) (pv 1)))
        (pss_cons (ps_asg (pe_op op_fdiv (pixL (pv 0) pe_int) (pv 1)) (pg_sub (pv 0) pe_int set_list))
        (pss_cons (ps_if (pt_cmpR op_eq (pixL (pv 0) pe_int) pe_int (nomark _)) (pss_one (ps_asg pe_int (pg_sub (pv 0) pe_int set_list))) pss_nil)
        (pss_one (ps_ret (pv 3)))))) pss_nil)
    (pss_cons (ps_asg (pe_op op_mod (pT1 call_int1 ti (pe_op op_mul (pixL (pv 0) pe_int) pe_int)) pe_int) (pg_sub (pv 0) pe_int set_list))
    (pss_one (ps_ret (pe_op op_mod (pT1 call_int1 ti (pe_op op_fdiv (pixL (pv 0) pe_int) pe_int)) (pv 1)))))))), ?_⟩
  refine ⟨fun σ' H' => ∃ (x : Option V) (cs : List Int) (i v l m : Int), σ' = [some (.ref a), some (.int many), x, none] ∧ But a H H' ∧ StAt K H' a p cs i v l m, ?_, ?_⟩
  · -- if state[3] == 0 and state[1] < len(state[0]): ..
    refine ⟨_, rfl, _, _, _, _, rfl, rfl, SqL.of S.h, rfl, rfl, _, rfl, ?_⟩
    refine ite2 (fun e1 => ?_) (fun _ => ?_)
    · refine ⟨_, rfl, _, _, _, _, rfl, rfl, SqL.of S.h, rfl, _, rfl, _, _, _, _, rfl, rfl, SqL.of S.h, rfl, _, _, rfl, .inl (SqL.of S.c), _, _, rfl, rfl, _, rfl, ?_⟩
      refine ite2 (fun e2 => ?_) (fun _ => ?_)
      · have e2' : i < ((cs.map V.int).length : Int) := of_decide_eq_true e2
        rw [List.length_map] at e2'
        obtain ⟨cell, hm, _, hat⟩ := at_map V.int S.i0 e2'
        have hb := S.b _ hm
        refine ⟨_, rfl, _, _, _, _, rfl, rfl, SqL.of S.h, rfl, _, rfl, _, _, _, _, rfl, rfl, SqL.of S.h, rfl, _, _, _, _, rfl, rfl, SqL.of S.c, hat, ?_⟩
        -- state[1] = state[1] + 1
        refine ⟨_, rfl, _, _, _, _, rfl, rfl, SqL.of S.h, rfl, _, _, rfl, rfl, _, rfl, _, _, _, _, rfl, rfl, S.h, rfl, ?_⟩
        have S1 : StAt K (upd H a (.lst (stL p (i + 1) v l m))) a p cs (i + 1) v l m := S.put _ rfl (by have := S.i0; omega) S.v0 S.m0
        have B1 : But a H (upd H a (.lst (stL p (i + 1) v l m))) := But.upd
        refine ⟨_, rfl, _, _, rfl, rfl, ⟨by decide, by decide, by decide⟩, _, _, rfl, rfl, _, rfl, ?_⟩
        refine ite2 (fun e3 => ?_) (fun _ => ?_)
        · -- state[2] = cell - 10 ** 18; state[3] = 60; state[4] = 1
          have e3' : (10 : Int) ^ 18 ≤ cell := of_decide_eq_true e3
          refine ⟨_, rfl, _, _, rfl, rfl, ⟨by decide, by decide, by decide⟩, _, _, rfl, rfl, _, rfl, _, _, _, _, rfl, rfl, S1.h, rfl, ?_⟩
          refine ⟨_, rfl, _, _, _, _, rfl, rfl, upd_same, rfl, ?_⟩
          refine ⟨_, rfl, _, _, _, _, rfl, rfl, upd_same, rfl, ?_⟩
          rw [upd_upd, upd_upd]
          exact ⟨some (.int cell), cs, i + 1, cell - 10 ^ 18, 60, 1, rfl, B1.trans But.upd, S1.put _ rfl S1.i0 (by omega) (.inl rfl)⟩
        · refine ⟨_, rfl, _, _, rfl, rfl, ⟨by omega, by decide⟩, .inl ⟨_, rfl, _, _, rfl, rfl, (by show (0 : Int) < 2147483647; decide), _, rfl, _, _, _, _, rfl, rfl, S1.h, rfl, ?_⟩⟩
          refine ⟨_, rfl, _, _, _, _, rfl, rfl, upd_same, rfl, ?_⟩
          refine ⟨_, rfl, _, _, _, _, rfl, rfl, upd_same, rfl, ?_⟩
          rw [upd_upd, upd_upd]
          exact ⟨some (.int cell), cs, i + 1, cell * 48271 % 2147483647, 5, 0, rfl, B1.trans But.upd, S1.put _ rfl S1.i0 (by omega) (.inr (by omega))⟩
      · exact ⟨none, cs, i, v, l, m, rfl, But.refl _ _, S⟩
    · exact ⟨none, cs, i, v, l, m, rfl, But.refl _ _, S⟩
  · rintro σ' H1 ⟨x, cs, i, v, l, m, rfl, B, S⟩
    -- if state[3] == 0: return 0
    refine ⟨_, rfl, _, _, _, _, rfl, rfl, SqL.of S.h, rfl, rfl, _, rfl, ?_⟩
    refine ite2 (fun _ => ?_) (fun _ => ?_)
    · exact q 0 H1 (by omega) (by omega) B ⟨_, _, _, _, _, S⟩
    -- state[3] = state[3] - 1
    refine ⟨_, rfl, _, _, _, _, rfl, rfl, SqL.of S.h, rfl, _, _, rfl, rfl, _, rfl, _, _, _, _, rfl, rfl, S.h, rfl, ?_⟩
    have S1 : StAt K (upd H1 a (.lst (stL p i v (l - 1) m))) a p cs i v (l - 1) m := S.put _ rfl S.i0 S.v0 S.m0
    have B1 : But a H (upd H1 a (.lst (stL p i v (l - 1) m))) := B.trans But.upd
    refine ⟨_, rfl, _, _, _, _, rfl, rfl, SqL.of S1.h, rfl, rfl, _, rfl, ?_⟩
    refine ite2 (fun e1 => ?_) (fun e1 => ?_)
    · -- digit = int(state[2]) % many; state[2] = state[2] // many
      refine ⟨_, rfl, _, _, _, _, rfl, rfl, SqL.of S1.h, rfl, .inl ⟨_, rfl, _, rfl, _, _, rfl, rfl, (by show 0 < many; omega), ?_⟩⟩
      refine ⟨_, rfl, _, _, _, _, rfl, rfl, SqL.of S1.h, rfl, _, rfl, _, _, rfl, rfl, ⟨by omega, by omega⟩, _, rfl, _, _, _, _, rfl, rfl, S1.h, rfl, ?_⟩
      have v1 : 0 ≤ v / many := Int.ediv_nonneg S1.v0 (by omega)
      have hm1 := int_eq e1
      refine ⟨_, rfl, _, _, _, _, rfl, rfl, SqL.of upd_same, rfl, rfl, _, rfl, ?_⟩
      have d0 : 0 ≤ v % many := Int.emod_nonneg _ (by omega)
      have d1 : v % many < many := Int.emod_lt_of_pos _ (by omega)
      refine ite2 (fun _ => ?_) (fun _ => ?_)
      · refine ⟨_, rfl, _, _, _, _, rfl, rfl, upd_same, rfl, ?_⟩
        rw [upd_upd]
        exact ⟨_, rfl, q _ _ d0 d1 (B1.trans But.upd) ⟨cs, i, v / many, 0, m, S1.put _ rfl S1.i0 v1 (.inl hm1)⟩⟩
      · exact ⟨_, rfl, q _ _ d0 d1 (B1.trans But.upd) ⟨cs, i, v / many, l - 1, m, S1.put _ rfl S1.i0 v1 (.inl hm1)⟩⟩
    · have v2 : v < 2147483647 := S1.m0.resolve_left (int_ne e1)
      have v0 := S1.v0
      refine ⟨_, rfl, _, _, _, _, rfl, rfl, SqL.of S1.h, rfl, _, _, rfl, rfl, .inl ⟨by omega, by omega⟩, .inl ⟨_, rfl, _, _, rfl, rfl, (by show (0 : Int) < 2147483629; decide), _, rfl, _, _, _, _, rfl, rfl, S1.h, rfl, ?_⟩⟩
      refine ⟨_, rfl, _, _, _, _, rfl, rfl, SqL.of upd_same, rfl, _, _, rfl, rfl, ⟨by decide, by decide⟩, .inl ⟨_, rfl, _, rfl, _, _, rfl, rfl, (by show 0 < many; omega), ?_⟩⟩
      exact q _ _ (Int.emod_nonneg _ (by omega)) (Int.emod_lt_of_pos _ (by omega)) (B1.trans But.upd) ⟨cs, i, v * 69621 % 2147483629, l - 1, m, S1.put _ rfl S1.i0 (by omega) (.inr (by omega))⟩
end
end W8

set_option Elab.async false
set_option linter.all false
set_option maxRecDepth 100000
set_option maxHeartbeats 4000000
namespace W8
open PySem L2
abbrev sLetters : Stmt := top 34
theorem scLetters : FnScope ["state", "most", "small", "count", "at", "letters", "k"] ["state", "most"] (defScope sLetters) := ⟨rfl, rfl, rfl, by decide +kernel, rfl, by decide +kernel, by decide +kernel⟩
/-- the small letters -/
def small : List Nat := (List.range 26).map (· + 97)
theorem small_eq : ("abcdefghijklmnopqrstuvwxyz" : Str) = S small := by decide +kernel
theorem small_at {i : Int} (h0 : 0 ≤ i) (h : i < 26) : atI (S small).cps.toList i = some (i.toNat + 97) := by
  obtain ⟨c, _, hc, hat⟩ := at_S (w := small) h0 (by show i < 26; exact h)
  rw [hat, ← hc]
  unfold small
  rw [List.getElem?_map, List.getElem?_range (by omega)] <;> rfl
/-- letters in ascending order, the last one at most the place n -/
structure Alph (al : List Nat) (n : Nat) : Prop where
  ne : al ≠ []
  asc : al.Pairwise (· < ·)
  lo : ∀ c ∈ al, 97 ≤ c ∧ c ≤ n + 97
def spLetters (K : PySem.W.Frag) : Sp := fun vs H Q _ => ∃ (a : Addr) (m : Int), vs = [.ref a, .int m] ∧ 1 ≤ m ∧ m ≤ 3 ∧ ∃ p, StOk K H a p ∧ ∀ al H', Alph al (8 * al.length - 1) → (al.length : Int) ≤ m → But a H H' → StOk K H' a p → Q (.str (S al)) H'
section
variable {P : Program} {w : World} {K : PySem.W.Frag} {mg : Str → Option Value} {base : Heap}
theorem ok_letters {f : Addr} {fd : FuncData} (F : Fun K "_law_letters" "_law_letters" sLetters f fd) (tr : mg "range" = none) (D : Cal P w K mg base "_law_draw" 1 ["state", "many"] (spDraw K)) : FnOk P w K mg base CX0 2 f fd ["state", "most"] (spLetters K) := by
  refine F.ok scLetters (fun vs H Q E h => ?_) (fun cdv A outer s H vs Q E hr h => ?_)
  · obtain ⟨a, m, rfl, _⟩ := h
    rfl
  obtain ⟨a, most, rfl, m1, m2, p, S0, q⟩ := h
  refine ⟨_, pss_cons (ps_set (i := 2) scLetters.nd rfl (Or.inl rfl) pe_str)
    (pss_cons (ps_set (i := 3) scLetters.nd rfl (Or.inl rfl) (pe_op op_add pe_int (pcall D hr (pa_cons (pv 0) (pa_cons (pv 1) pa_nil)))))
    (pss_cons (ps_set (i := 4) scLetters.nd rfl (Or.inl rfl) (pcall D hr (pa_cons (pv 0) (pa_cons pe_int pa_nil))))
    (pss_cons (ps_set (i := 5) scLetters.nd rfl (Or.inl rfl) (pixS (pv 2) (pv 4)))
    (pss_cons (ps_for PassesOwn.never rfl (pi_range1 (by rfl) tr (pa_cons (pe_op op_sub (pv 3) pe_int) pa_nil)) (pg_name (i := 6) scLetters.nd rfl (Or.inl rfl))
      (pss_cons (ps_set (i := 4) scLetters.nd rfl (Or.inl rfl) (pe_op op_add (pe_op op_add (pv 4) pe_int) (pcall D hr (pa_cons (pv 0) (pa_cons pe_int pa_nil)))))
      (pss_one (ps_set (i := 5) scLetters.nd rfl (Or.inl rfl) (pe_op op_add_str (pv 5) (pixS (pv 2) (pv 4)))))))
    (pss_one (ps_ret (pv 5))))))), ?_⟩
  refine ⟨_, rfl, _, rfl, a, most, rfl, m1, by omega, _, S0, fun c H1 c0 c1 B1 S1 => ?_⟩
  refine ⟨_, _, rfl, rfl, _, rfl, a, 8, rfl, by omega, by omega, _, S1, fun t H2 t0 t1 B2 S2 => ?_⟩
  refine ⟨_, rfl, _, rfl, S small, t, _, by rw [small_eq], rfl, by decide, small_at t0 (by omega), ?_⟩
  refine ⟨_, rfl, _, _, rfl, rfl, _, rfl, by omega, by omega, ?_⟩
  have en : (1 + c - 1).toNat = c.toNat := by omega
  rw [en]
  refine for_range (lo := 0) (n := c.toNat) (fun i σ H' => ∃ (al : List Nat) (x : Nat) (kk : Option V), σ = [some (.ref a), some (.int most), some (.str (S small)), some (.int (1 + c)), some (.int (x : Int)), some (.str (S al)), kk] ∧
      al.length = i + 1 ∧ x + 1 ≤ 8 * (i + 1) ∧ al.Pairwise (· < ·) ∧ (∀ y ∈ al, 97 ≤ y ∧ y ≤ x + 97) ∧ But a H H' ∧ StOk K H' a p) ?_ ?_ ?_
  · refine ⟨[t.toNat + 97], t.toNat, none, ?_, rfl, by omega, List.pairwise_singleton _ _, fun y hy => ?_, B1.trans B2, S2⟩
    · rw [Int.toNat_of_nonneg t0, small_eq]
      rfl
    · rw [List.mem_singleton.mp hy]
      omega
  · rintro i σ H3 hi ⟨al, x, kk, rfl, l1, l2, pw, lo, B3, S3⟩
    refine ⟨_, rfl, _, _, rfl, rfl, _, rfl, a, 8, rfl, by omega, by omega, _, S3, fun u H4 u0 u1 B4 S4 => ?_⟩
    refine ⟨_, _, rfl, rfl, _, rfl, _, rfl, _, rfl, S small, _, _, rfl, rfl, by decide, small_at (i := (x : Int) + 1 + u) (by omega) (by omega), _, _, rfl, rfl, ?_, ?_⟩
    · rw [S_len]
      exact sz (by show al.length + 1 ≤ 100000; omega)
    refine ⟨al ++ [((x : Int) + 1 + u).toNat + 97], ((x : Int) + 1 + u).toNat, some (.int (0 + (i : Int))), ?_, by rw [List.length_append, l1] <;> rfl, by omega, ?_, fun y hy => ?_, B3.trans B4, S4⟩
    · rw [Int.toNat_of_nonneg (by omega), S_one, S_app]
      rfl
    · refine List.pairwise_append.mpr ⟨pw, List.pairwise_singleton _ _, fun y hy z hz => ?_⟩
      have := lo y hy
      rw [List.mem_singleton.mp hz]
      omega
    · rcases List.mem_append.mp hy with h | h
      · have := lo y h
        omega
      · rw [List.mem_singleton.mp h]
        omega
  · rintro σ H3 ⟨al, x, kk, rfl, l1, l2, pw, lo, B3, S3⟩
    refine ⟨_, rfl, q al H3 ⟨(fun e => by rw [e] at l1; cases l1), pw, fun y hy => ?_⟩ (by omega) B3 S3⟩
    have := lo y hy
    omega
end
end W8

set_option Elab.async false
set_option linter.all false
set_option maxRecDepth 100000
set_option maxHeartbeats 4000000
namespace W8
open PySem L2 NK
/-- the letter of a place, as a text -/
def ltS (w : List Nat) (p : Nat) : List Nat := if p = 0 then [] else [w.getD (p - 1) 0]
def cmpI (a b : Nat) : Int := (if b < a then 1 else 0) - (if a < b then 1 else 0)
def letsOf (w ps : List Nat) : List Str := ps.map fun p => S (ltS w p)
def ordOf (ps : List Nat) : List Int := ps.flatMap fun a => ps.map fun b => cmpI a b
def plainK (w ps : List Nat) : List Itm := [.inr ((letsOf w ps).map Sum.inr), .inr ((ordOf ps).map Sum.inl)]

abbrev sLetter_at : Stmt := top 26
theorem scLetter_at : FnScope ["word", "place"] ["word", "place"] (defScope sLetter_at) := ⟨rfl, rfl, rfl, by decide +kernel, rfl, by decide +kernel, by decide +kernel⟩
def spLetter_at : Sp := fun vs H Q _ => ∃ (u : List Nat) (p : Nat), vs = [.str (S u), .int (p : Int)] ∧ p ≤ u.length ∧ u.length ≤ 1000 ∧ Q (.str (S (ltS u p))) H
section
variable {P : Program} {w : World} {K : PySem.W.Frag} {mg : Str → Option Value} {base : Heap}
theorem ok_letter_at {f : Addr} {fd : FuncData} (F : Fun K "letter_at" "letter_at" sLetter_at f fd) : FnOk P w K mg base CX0 1 f fd ["word", "place"] spLetter_at := by
  refine F.ok scLetter_at (fun vs H Q E h => ?_) (fun cdv A outer s H vs Q E hr h => ?_)
  · obtain ⟨u, p, rfl, _⟩ := h
    rfl
  obtain ⟨u, p, rfl, hp, hu, q⟩ := h
  refine ⟨_, (pss_cons (ps_if (pt_cmpR op_eq (pv 1) pe_int (nomark _)) (pss_one (ps_ret pe_str)) pss_nil)
    (pss_one (ps_ret (pixS (pv 0) (pe_op op_sub (pv 1) pe_int))))), ?_⟩
  refine ⟨_, rfl, rfl, _, rfl, ?_⟩
  refine ite2 (fun e => ?_) (fun e => ?_)
  · have e' : p = 0 := by have := int_eq e; omega
    subst e'
    exact q
  · have e' : p ≠ 0 := fun z => int_ne e (by rw [z]; rfl)
    obtain ⟨c, _, hc, hat⟩ := at_S (w := u) (i := (p : Int) - 1) (by omega) (by omega)
    refine ⟨_, rfl, _, rfl, _, _, rfl, rfl, S u, _, c, rfl, rfl, by rw [S_len]; exact sz (by omega), hat, ?_⟩
    have et : ((p : Int) - 1).toNat = p - 1 := by omega
    rw [et] at hc
    have el : ltS u p = [c] := by
      unfold ltS
      rw [if_neg e', List.getD_eq_getElem?_getD, hc]
      rfl
    rw [el] at q
    exact q
end
end W8

set_option Elab.async false
set_option linter.all false
set_option maxRecDepth 100000
set_option maxHeartbeats 4000000
namespace W8
open PySem L2 NK
abbrev sPlain : Stmt := top 27
theorem scPlain : FnScope ["word", "places", "order", "one", "other", "place"] ["word", "places"] (defScope sPlain) := ⟨rfl, rfl, rfl, by decide +kernel, rfl, by decide +kernel, by decide +kernel⟩
def natV (p : Nat) : V := .int (p : Int)
def spPlain (K : PySem.W.Frag) : Sp := fun vs H Q _ => ∃ (u ps : List Nat) (a : Addr), vs = [.str (S u), .ref a] ∧ SqT K H a (ps.map natV) ∧ (∀ p ∈ ps, p ≤ u.length) ∧ u.length ≤ 1000 ∧ ps.length ≤ 10 ∧
  ∀ b H', Same H H' → KeyAt H' (plainK u ps) b → Q (.ref b) H'
theorem seqT {K : PySem.W.Frag} {H H' : Hp} {a : Addr} {xs : List V} (e : Same H H') (h : SqT K H a xs) : SqT K H' a xs := by
  rcases h with (h | ⟨o, h⟩) | h
  · exact .inl (.inl (e _ _ h))
  · exact .inl (.inr ⟨o, e _ _ h⟩)
  · exact .inr h
theorem same_upd {H H' : Hp} {D : Addr} {o : HO} (s : Same H H') (n : H D = none) : Same H (upd H' D o) := fun b u e => by
  rw [upd_ne (ne_of_none e n)]
  exact s b u e
theorem get_map {α : Type} {g : α → V} {xs : List α} {i : Nat} {x : V} (h : (xs.map g)[i]? = some x) : ∃ z, xs[i]? = some z ∧ x = g z ∧ z ∈ xs := by
  rw [List.getElem?_map] at h
  obtain ⟨z, hz, e⟩ := Option.map_eq_some_iff.mp h
  exact ⟨z, hz, e.symm, List.mem_of_getElem? hz⟩
theorem flat_take {α β : Type} (g : α → List β) {xs : List α} {i : Nat} {x : α} (h : xs[i]? = some x) : (xs.take (i + 1)).flatMap g = (xs.take i).flatMap g ++ g x := by
  rw [List.take_add_one, h, List.flatMap_append]
  simp
theorem cmp_val (x y : Nat) : V.int ((if decide ((y : Int) < (x : Int)) = true then 1 else 0) - (if decide ((x : Int) < (y : Int)) = true then 1 else 0)) = V.int (cmpI x y) := by
  unfold cmpI
  simp only [decide_eq_true_eq, Int.ofNat_lt]
theorem take_map {α β : Type} (g : α → β) {xs : List α} {i : Nat} {x : α} (h : xs[i]? = some x) : (xs.take (i + 1)).map g = (xs.take i).map g ++ [g x] := by
  rw [List.take_add_one, h, List.map_append]
  rfl
theorem ordTake_len (ps : List Nat) (i : Nat) : ((ps.take i).flatMap fun x => ps.map fun y => cmpI x y).length ≤ ps.length * ps.length := by
  have e : ∀ l : List Nat, (l.flatMap fun x => ps.map fun y => cmpI x y).length = l.length * ps.length := by
    intro l
    induction l with
    | nil => simp
    | cons x r ih => rw [List.flatMap_cons, List.length_append, ih, List.length_map, List.length_cons, Nat.succ_mul, Nat.add_comm]
  rw [e, List.length_take]
  exact Nat.mul_le_mul_right _ (Nat.min_le_right _ _)
section
variable {P : Program} {w : World} {K : PySem.W.Frag} {mg : Str → Option Value} {base : Heap}
theorem ok_plain {f : Addr} {fd : FuncData} (F : Fun K "plain_kind" "plain_kind" sPlain f fd) (tt : mg "tuple" = none) (ti : mg "int" = none) (cletter_at : Cal P w K mg base "letter_at" 1 ["word", "place"] spLetter_at) : FnOk P w K mg base CX0 2 f fd ["word", "places"] (spPlain K) := by
  refine F.ok scPlain (fun vs H Q E h => ?_) (fun cdv A outer s H vs Q E hr h => ?_)
  · obtain ⟨u, ps, a, rfl, _⟩ := h
    rfl
  obtain ⟨u, ps, a, rfl, st, hle, hu, hps, q⟩ := h
  refine ⟨_, (pss_cons (ps_set (i := 2) scPlain.nd rfl (Or.inl rfl) (pT1 call_tuple_of tt (pe_lc2 (wi1 := iTup K (tVar 1)) (own := [("one", 3), ("other", 4)]) (vs1 := [4]) (g := gName 3) (tt := tYes) rfl scPlain.nd (pi_tup (pv 1)) (blkOk_by (own := [("one", 3), ("other", 4)]) (N := ["word", "places", "order", "one", "other", "place"]) (sc := defScope sPlain) (by decide +kernel)) (by decide)
      (fun _ _ _ _ _ => (pg_name (i := 3) scPlain.nd rfl (Or.inl rfl))) (fun _ _ _ _ _ => pts_nil) (fun _ _ _ _ _ => (pi_tup (pv 1))) (fun _ _ _ _ _ => (pg_name (i := 4) scPlain.nd rfl (Or.inl rfl))) (fun _ _ _ _ _ => pts_nil)
      (fun _ _ _ _ _ => (pe_op op_sub (pT1 call_int1 ti (pe_cmpR op_gt (pv 3) (pv 4) (nomark _))) (pT1 call_int1 ti (pe_cmpR op_lt (pv 3) (pv 4) (nomark _))))))))
    (pss_one (ps_ret (pe_tup (pa_cons (pT1 call_tuple_of tt (pe_lc (own := [("place", 5)]) (g := gName 5) (tt := tYes) rfl scPlain.nd (pi_tup (pv 1)) (blkOk_by (own := [("place", 5)]) (N := ["word", "places", "order", "one", "other", "place"]) (sc := defScope sPlain) (by decide +kernel))
      (fun _ _ _ _ _ => (pg_name (i := 5) scPlain.nd rfl (Or.inl rfl))) (fun _ _ _ _ _ => pts_nil) (fun _ _ _ _ _ => (pcall cletter_at hr (pa_cons (pv 0) (pa_cons (pv 5) pa_nil)))))) (pa_cons (pv 2) pa_nil)))))), ?_⟩
  -- order
  have hlen : (ps.map natV).length = ps.length := List.length_map _
  refine ⟨_, rfl, a, rfl, ⟨_, st⟩, fun D hD => ?_⟩
  refine walk_t (xs := ps.map natV) (fun i H' => Same H H' ∧ H' D = some (.lst (((ps.take i).flatMap fun x => ps.map fun y => cmpI x y).map V.int))) ⟨same_new hD _, upd_same⟩ (fun i H' ⟨s1, _⟩ => seqT s1 st) ?_ ?_
  · rintro i x H1 hx ⟨s1, hD1⟩
    obtain ⟨x, hxi, rfl, hxm⟩ := get_map hx
    refine ⟨rfl, yes ?_⟩
    refine ⟨_, rfl, a, rfl, ⟨_, seqT s1 st⟩, ?_⟩
    refine walk_t (xs := ps.map natV) (fun j H' => Same H H' ∧ H' D = some (.lst ((((ps.take i).flatMap fun x => ps.map fun y => cmpI x y) ++ (ps.take j).map fun y => cmpI x y).map V.int))) ⟨s1, by rw [hD1]; simp⟩ (fun i H' ⟨s1, _⟩ => seqT s1 st) ?_ ?_
    · rintro j y H2 hy ⟨s2, hD2⟩
      obtain ⟨y, hyj, rfl, hym⟩ := get_map hy
      refine ⟨rfl, yes ?_⟩
      refine ⟨_, rfl, _, rfl, _, _, rfl, rfl, .inr ⟨_, rfl, _, rfl, _, rfl, _, _, rfl, rfl, .inr ⟨_, rfl, _, _, rfl, rfl, ?_⟩⟩⟩
      refine ⟨_, hD2, small_lt ?_, same_upd s2 hD, ?_⟩
      · have e1 := ordTake_len ps i
        have e2 : ((ps.take j).map fun y => cmpI x y).length ≤ ps.length := by rw [List.length_map, List.length_take]; omega
        rw [List.length_map, List.length_append]
        have : ps.length * ps.length ≤ 10 * 10 := Nat.mul_le_mul hps hps
        omega
      · rw [upd_same, take_map _ hyj, ← List.append_assoc]
        rw [List.map_append (l₂ := [cmpI x y])]
        exact congrArg (fun z => some (HO.lst (_ ++ [z]))) (cmp_val x y)
    · rintro H2 ⟨s2, hD2⟩
      refine ⟨s2, ?_⟩
      rw [hD2, flat_take _ hxi, hlen, List.take_length]
  · rintro H1 ⟨s1, hD1⟩
    rw [hlen, List.take_length] at hD1
    refine ⟨_, _, rfl, .inl ⟨SqL.of hD1, fun o ho => ?_⟩⟩
    have s2 : Same H (upd H1 o (.tup ((ordOf ps).map V.int))) := same_upd s1 (s1.free ho)
    have ho2 : (upd H1 o (.tup ((ordOf ps).map V.int))) o = some (.tup ((ordOf ps).map V.int)) := upd_same
    refine ⟨_, rfl, a, rfl, ⟨_, seqT s2 st⟩, fun D2 hD2 => ?_⟩
    refine walk_t (xs := ps.map natV) (fun i H' => Same (upd H1 o (.tup ((ordOf ps).map V.int))) H' ∧ H' D2 = some (.lst ((letsOf u (ps.take i)).map V.str))) ⟨same_new hD2 _, upd_same⟩ (fun i H' ⟨s3, _⟩ => seqT (s2.trans s3) st) ?_ ?_
    · rintro i x H3 hx ⟨s3, hD3⟩
      obtain ⟨x, hxi, rfl, hxm⟩ := get_map hx
      refine ⟨rfl, yes ?_⟩
      refine ⟨_, rfl, _, rfl, u, x, rfl, hle x hxm, hu, ?_⟩
      refine ⟨_, hD3, small_lt ?_, same_upd s3 hD2, ?_⟩
      · unfold letsOf
        rw [List.length_map, List.length_map, List.length_take]
        omega
      · rw [upd_same]
        unfold letsOf
        rw [take_map _ hxi, List.map_append]
        rfl
    · rintro H3 ⟨s3, hD3⟩
      rw [hlen, List.take_length] at hD3
      refine ⟨_, _, rfl, .inl ⟨SqL.of hD3, fun l hl => ?_⟩⟩
      refine ⟨_, rfl, by show 2 ≤ sizeLine; decide, fun t ht => ?_⟩
      have s4 : Same H3 (upd H3 l (.tup ((letsOf u ps).map V.str))) := same_new hl _
      refine q t _ ((s2.trans s3).trans (s4.trans (same_new ht _))) ⟨[.ref l, .ref o], upd_same, .cons ?_ (.cons ?_ .nil)⟩
      · refine ⟨l, rfl, ?_⟩
        rw [same_new ht _ _ _ upd_same, List.map_map]
        rfl
      · refine ⟨o, rfl, ?_⟩
        rw [same_new ht _ _ _ (s4 _ _ (s3 _ _ ho2)), List.map_map]
        rfl
end
end W8

set_option Elab.async false
set_option linter.all false
set_option maxRecDepth 100000
set_option maxHeartbeats 4000000
namespace W8
open PySem L2 NK
def setK (r : Nat) (ns : List Int) : List Itm := [.inl (.inl (r : Int)), .inr (ns.map Sum.inl)]
/-- n is the number of what r rounds tell of u with the places ps, by the list of keys -/
def Num (D : List (List Itm)) : Nat → List Nat → List Nat → Nat → Prop
  | 0, u, ps, n => D[n]? = some (plainK u ps)
  | r + 1, u, ps, n => ∃ (ks : List Nat) (ns : List Int), ks.length = u.length + 1 ∧ (∀ a k, ks[a]? = some k → Num D r u (ps ++ [a]) k) ∧ ns.Pairwise (· < ·) ∧ (∀ z : Int, z ∈ ns ↔ z ∈ ks.map (fun k : Nat => (k : Int))) ∧ D[n]? = some (setK (r + 1) ns)
theorem get_prefix {α : Type} {D D' : List α} (h : ∃ t, D' = D ++ t) {n : Nat} {x : α} (e : D[n]? = some x) : D'[n]? = some x := by
  obtain ⟨t, rfl⟩ := h
  rw [List.getElem?_append_left (List.getElem?_eq_some_iff.mp e).1]
  exact e
theorem Num.mono {D D' : List (List Itm)} (h : ∃ t, D' = D ++ t) : ∀ {r : Nat} {u ps : List Nat} {n : Nat}, Num D r u ps n → Num D' r u ps n
  | 0, _, _, _, e => get_prefix h e
  | r + 1, _, _, _, ⟨ks, ns, h1, h2, h3, h4, h5⟩ => ⟨ks, ns, h1, fun a k hk => Num.mono h (h2 a k hk), h3, h4, get_prefix h h5⟩
/-- the dict at d numbers the keys D -/
def NumD (P : Program) (w : World) (H : Hp) (d : Addr) (D : List (List Itm)) : Prop :=
  ∃ kvs : KVs, H d = some (ND P w d kvs) ∧ Keyed H kvs ∧ kvs.map (·.1) = D ∧ (∀ (i : Nat) p, kvs[i]? = some p → p.2.2 = .int (i : Int)) ∧ D.Nodup
def cost : Nat → Nat → Nat
  | 0, _ => 1
  | r + 1, n => 1 + (n + 1) * cost r n
theorem NumD.mono {P : Program} {w : World} {H H' : Hp} {d : Addr} {D : List (List Itm)} (s : Same H H') (h : NumD P w H d D) : NumD P w H' d D := by
  obtain ⟨kvs, h1, h2, h3, h4, h5⟩ := h
  exact ⟨kvs, s _ _ h1, h2.mono s, h3, h4, h5⟩
theorem valN_at {kvs : KVs} (nd : (kvs.map (·.1)).Nodup) {i : Nat} {p : List Itm × Addr × V} (h : kvs[i]? = some p) : valN kvs p.1 = some p.2.2 := by
  unfold valN
  induction kvs generalizing i with
  | nil => cases h
  | cons q r ih =>
    rw [List.map_cons, List.nodup_cons] at nd
    rw [List.find?_cons]
    cases i with
    | zero =>
      have e : q = p := by simpa using h
      subst e
      rw [decide_eq_true rfl]
      rfl
    | succ i =>
      have h' : r[i]? = some p := by simpa using h
      have hne : ¬ q.1 = p.1 := fun e => nd.1 (by rw [e]; exact List.mem_map_of_mem (List.mem_of_getElem? h'))
      rw [decide_eq_false hne]
      exact ih nd.2 h'
theorem valN_none {kvs : KVs} {k : List Itm} (h : k ∉ kvs.map (·.1)) : valN kvs k = none := by
  unfold valN
  rw [Option.map_eq_none_iff, List.find?_eq_none]
  intro p hp e
  exact h (by rw [← of_decide_eq_true e]; exact List.mem_map_of_mem hp)
/-- if key not in numbers: numbers[key] = len(numbers); return numbers[key] -/
theorem num_tail {P : Program} {w : World} {H : Hp} {d b : Addr} {D : List (List Itm)} {key : List Itm} {σ : L2.St} {Q : VK} {nx : L2.St → Hp → Prop} {hK : σ[3]? = some (some (.ref d))} {hk : σ[4]? = some (some (.ref b))} (hN : NumD P w H d D) (hb : KeyAt H key b) (hl : D.length + 1 ≤ 1000000)
    (q : ∀ (n : Nat) D' H', But d H H' → NumD P w H' d D' → (∃ t, D' = D ++ t) → D'.length ≤ D.length + 1 → D'[n]? = some key → Q (.int (n : Int)) H') :
    tSeq (tIfS (tB (tNNotIn P w (tVar 4) (tVar 3))) (sNPut P w (tVar 3) (tVar 4) (tCB (fun xs H Q => ∃ a kvs, xs = [V.ref a] ∧ H a = some (ND P w a kvs) ∧ Keyed H kvs ∧ Q (.int kvs.length) H) (tCons (tVar 3) tNil))) tNext) (tRet (tNGet P w (tVar 3) (tVar 4))) { nx := nx, rt := Q } σ H := by
  obtain ⟨kvs, h1, h2, h3, h4, h5⟩ := hN
  have hlen : kvs.length = D.length := by rw [← h3, List.length_map]
  refine ⟨_, hk, _, hK, d, kvs, key, b, rfl, rfl, h1, h2, hb, _, rfl, ?_⟩
  by_cases hm : key ∈ D
  · obtain ⟨i, hi⟩ := List.getElem?_of_mem hm
    have hi2 := hi
    rw [← h3, List.getElem?_map] at hi2
    obtain ⟨p, hp, ep⟩ := Option.map_eq_some_iff.mp hi2
    have hv : valN kvs key = some (.int (i : Int)) := by
      rw [← ep, valN_at (by rw [h3]; exact h5) hp, h4 i p hp]
    rw [hv]
    refine ⟨_, hK, _, hk, d, kvs, key, b, _, rfl, rfl, h1, h2, hb, hv, ?_⟩
    exact q i D H (But.refl _ _) ⟨kvs, h1, h2, h3, h4, h5⟩ ⟨[], by rw [List.append_nil]⟩ (by omega) hi
  · have hv : valN kvs key = none := valN_none (by rw [h3]; exact hm)
    rw [hv]
    refine ⟨_, hK, d, kvs, rfl, h1, h2, _, hK, _, hk, d, kvs, key, b, rfl, rfl, h1, h2, hb, Nat.lt_of_lt_of_le (show kvs.length < 1000000 by omega) (by decide), ?_⟩
    have hp : putN kvs key b (.int (kvs.length : Int)) = kvs ++ [(key, b, .int (kvs.length : Int))] := by
      unfold putN
      rw [hv]
      rfl
    rw [hp]
    have hnt : ∀ vs, H d ≠ some (.tup vs) := fun vs e => by rw [h1] at e; cases e
    have h2' : Keyed (upd H d (ND P w d (kvs ++ [(key, b, .int (kvs.length : Int))]))) (kvs ++ [(key, b, .int (kvs.length : Int))]) := by
      intro p hp
      rcases List.mem_append.mp hp with e | e
      · exact (h2 p e).but hnt (fun c o n e => by rw [upd_ne n]; exact e)
      · rw [List.mem_singleton.mp e]
        exact hb.but hnt (fun c o n e => by rw [upd_ne n]; exact e)
    have nd' : ((kvs ++ [(key, b, V.int (kvs.length : Int))]).map (·.1)) = D ++ [key] := by rw [List.map_append, h3]; rfl
    have nd2 : (D ++ [key]).Nodup := by
      rw [List.nodup_append]
      exact ⟨h5, List.nodup_cons.mpr ⟨by simp, List.nodup_nil⟩, fun x hx y hy e => hm (by rw [← List.mem_singleton.mp hy, ← e]; exact hx)⟩
    have hat : (kvs ++ [(key, b, V.int (kvs.length : Int))])[kvs.length]? = some (key, b, V.int (kvs.length : Int)) := by rw [List.getElem?_append_right (Nat.le_refl _)]; simp
    have hv2 : valN (kvs ++ [(key, b, .int (kvs.length : Int))]) key = some (.int (kvs.length : Int)) := valN_at (p := (key, b, .int (kvs.length : Int))) (by rw [nd']; exact nd2) hat
    refine ⟨_, hK, _, hk, d, _, key, b, _, rfl, rfl, upd_same, h2', hb.but hnt (fun c o n e => by rw [upd_ne n]; exact e), hv2, ?_⟩
    refine q kvs.length (D ++ [key]) _ But.upd ⟨_, upd_same, h2', nd', fun i p hp => ?_, nd2⟩ ⟨_, rfl⟩ (by rw [List.length_append] <;> exact Nat.le_refl _) (by rw [hlen, List.getElem?_append_right (Nat.le_refl _)]; simp)
    by_cases hi : i < kvs.length
    · rw [List.getElem?_append_left hi] at hp
      exact h4 i p hp
    · have hi2 := (List.getElem?_eq_some_iff.mp hp).1
      rw [List.length_append] at hi2
      have ei : i = kvs.length := by
        have : [(key, b, V.int (kvs.length : Int))].length = 1 := rfl
        omega
      subst ei
      rw [hat] at hp
      cases hp
      rfl
end W8

set_option Elab.async false
set_option linter.all false
set_option maxRecDepth 100000
set_option maxHeartbeats 4000000
namespace W8
open PySem L2 NK
abbrev sKindN : Stmt := top 28
theorem scKindN : FnScope ["word", "places", "rounds", "numbers", "key", "further", "at"] ["word", "places", "rounds", "numbers"] (defScope sKindN) := ⟨rfl, rfl, rfl, by decide +kernel, rfl, by decide +kernel, by decide +kernel⟩
def spKindN (P : Program) (w : World) (K : PySem.W.Frag) (r : Nat) : Sp := fun vs H Q _ => ∃ (u ps : List Nat) (a d : Addr) (D : List (List Itm)), vs = [.str (S u), .ref a, .int (r : Int), .ref d] ∧ SqT K H a (ps.map natV) ∧ (∀ p ∈ ps, p ≤ u.length) ∧ u.length ≤ 60 ∧ ps.length + r ≤ 10 ∧
  NumD P w H d D ∧ D.length + cost r u.length ≤ 1000000 ∧
  ∀ (n : Nat) D' H', But d H H' → NumD P w H' d D' → (∃ t, D' = D ++ t) → D'.length ≤ D.length + cost r u.length → Num D' r u ps n → Q (.int (n : Int)) H'
theorem catA1 {K : PySem.W.Frag} {H : Hp} {a t : Addr} {xs : List V} {y : V} {Q : VK} (ha : SqT K H a xs) (ht : H t = some (.tup [y])) (hn : xs.length ≤ 1000) (q : ∀ b H', Same H H' → SqT K H' b (xs ++ [y]) → Q (.ref b) H') : rCatA K (.ref a) (.ref t) H Q := by
  refine ⟨a, t, xs, [y], rfl, rfl, ha, SqT.of ht, sz (by show xs.length + 1 ≤ 100000; omega), fun e => ?_, fun _ e => (nomatch e), fun _ _ p hp => ?_⟩
  · subst e
    exact q t H (Same.refl H) (SqT.of ht)
  · exact q p _ (same_new hp _) (SqT.of upd_same)
theorem But.seqT {K : PySem.W.Frag} {d a : Addr} {H H' : Hp} {xs : List V} (b : But d H H') (hd : ∀ o, H d = some o → ∃ φ, o = .ext φ) (h : SqT K H a xs) : SqT K H' a xs := by
  rcases h with (h | ⟨o, h⟩) | h
  · exact .inl (.inl (b _ _ (fun e => by subst e; obtain ⟨φ, e⟩ := hd _ h; cases e) h))
  · exact .inl (.inr ⟨o, b _ _ (fun e => by subst e; obtain ⟨φ, e⟩ := hd _ h; cases e) h⟩)
  · exact .inr h
theorem NumD.ext {P : Program} {w : World} {H : Hp} {d : Addr} {D : List (List Itm)} (h : NumD P w H d D) : ∀ o, H d = some o → ∃ φ, o = .ext φ := fun o e => by
  obtain ⟨kvs, h1, _⟩ := h
  rw [h1] at e
  cases e
  exact ⟨_, rfl⟩
section
variable {P : Program} {w : World} {K : PySem.W.Frag} {mg : Str → Option Value} {base : Heap}
theorem ok_kind0 {f : Addr} {fd : FuncData} (F : Fun K "kind_number" "kind_number" sKindN f fd) (tl : mg "len" = none) (cplain_kind : Cal P w K mg base "plain_kind" 2 ["word", "places"] (spPlain K)) :
    FnOk P w K mg base CX0 3 f fd ["word", "places", "rounds", "numbers"] (spKindN P w K 0) := by
  refine F.ok scKindN (fun vs H Q E h => ?_) (fun cdv A outer s H vs Q E hr h => ?_)
  · obtain ⟨u, ps, a, d, D, rfl, _⟩ := h
    rfl
  obtain ⟨u, ps, a, d, D, rfl, st, hle, hu, hps, hN, hD, q⟩ := h
  have hu16 := hr.units
  refine ⟨_, (pss_cons (ps_if (pt_cmpR op_eq (pv 2) pe_int (nomark _))
      (pss_one (ps_set (i := 4) scKindN.nd rfl (Or.inl rfl) (pcall cplain_kind hr (pa_cons (pv 0) (pa_cons (pv 1) pa_nil)))))
      pss_never)
    (pss_cons (ps_if (pt_cmp (NK.pc_nnotin (Nat.lt_of_le_of_lt (Nat.add_le_add_left (by decide : 16 ≤ 64) _) hu16) (pv 4) (pv 3)) rfl)
      (pss_one (NK.ps_nput (Nat.lt_of_le_of_lt (Nat.add_le_add_left (by decide : 16 ≤ 64) _) hu16) (pv 3) (pv 4) (pB1 NK.call_lenN tl (pv 3)) rfl))
      pss_nil)
    (pss_one (ps_ret (NK.pe_nget (Nat.lt_of_le_of_lt (Nat.add_le_add_left (by decide : 16 ≤ 64) _) hu16) (pv 3) (pv 4) (fun _ _ => rfl)))))), ?_⟩
  refine ⟨_, rfl, rfl, _, rfl, ?_⟩
  refine ite2 (fun e => ?_) (fun e => absurd rfl e)
  refine ⟨_, rfl, _, rfl, u, ps, a, rfl, st, hle, by omega, by omega, fun b H1 s1 hb => ?_⟩
  refine num_tail (hK := rfl) (hk := rfl) (hN.mono s1) hb hD fun n D' H2 b2 hN2 pre len hn => ?_
  exact q n D' H2 ((But.of s1).trans b2) hN2 pre len hn
theorem ok_kindS {r : Nat} (hr10 : r ≤ 10) {f : Addr} {fd : FuncData} (F : Fun K "kind_number" "kind_number" sKindN f fd) (tl : mg "len" = none) (tr : mg "range" = none) (tt : mg "tuple" = none) (tse : mg "set" = none) (tso : mg "sorted" = none) (ckind_number : Cal P w K mg base "kind_number" (3 + r) ["word", "places", "rounds", "numbers"] (spKindN P w K r)) :
    FnOk P w K mg base CX0 (3 + r + 1) f fd ["word", "places", "rounds", "numbers"] (spKindN P w K (r + 1)) := by
  refine F.ok scKindN (fun vs H Q E h => ?_) (fun cdv A outer s H vs Q E hr h => ?_)
  · obtain ⟨u, ps, a, d, D, rfl, _⟩ := h
    rfl
  obtain ⟨u, ps, a, d, D, rfl, st, hle, hu, hps, hN, hD, q⟩ := h
  have hu16 := hr.units
  refine ⟨_, (pss_cons (ps_if (pt_cmpR op_eq (pv 2) pe_int (nomark _))
      pss_never
      (pss_cons (ps_setLc (i := 5) (own := [("at", 6)]) (g := gName 6) (tt := tYes) rfl scKindN.nd rfl rfl (sw_true rfl rfl rfl (by decide +kernel)) (pi_range1 (by rfl) tr (pa_cons (pe_op op_add (pB1 call_len_str tl (pv 0)) pe_int) pa_nil))
        (blkOk_by (own := [("at", 6)]) (N := ["word", "places", "rounds", "numbers", "key", "further", "at"]) (sc := defScope sKindN) (by decide +kernel)) (fun _ _ _ _ _ => (pg_name (i := 6) scKindN.nd rfl (Or.inl rfl))) (fun _ _ _ _ _ => pts_nil)
        (fun _ _ _ _ _ => (pcall ckind_number hr (pa_cons (pv 0) (pa_cons (pe_op (r := rCatA K) op_catA (pv 1) (pe_tup (pa_cons (pv 6) pa_nil))) (pa_cons (pe_op op_sub (pv 2) pe_int) (pa_cons (pv 3) pa_nil)))) (hk := Nat.le_refl _))))
      (pss_one (ps_set (i := 4) scKindN.nd rfl (Or.inl rfl) (pe_tup (pa_cons (pv 2) (pa_cons (pT1 call_tuple_of tt (pB1 (cr_sortedSet rfl) tso (pT1 (cr_setL rfl) tse (pv 5)))) pa_nil)))))))
    (pss_cons (ps_if (pt_cmp (NK.pc_nnotin (Nat.lt_of_le_of_lt (Nat.add_le_add_left (by decide : 16 ≤ 64) _) hu16) (pv 4) (pv 3)) rfl)
      (pss_one (NK.ps_nput (Nat.lt_of_le_of_lt (Nat.add_le_add_left (by decide : 16 ≤ 64) _) hu16) (pv 3) (pv 4) (pB1 NK.call_lenN tl (pv 3)) rfl))
      pss_nil)
    (pss_one (ps_ret (NK.pe_nget (Nat.lt_of_le_of_lt (Nat.add_le_add_left (by decide : 16 ≤ 64) _) hu16) (pv 3) (pv 4) (fun _ _ => rfl)))))), ?_⟩
  refine ⟨_, rfl, rfl, _, rfl, ?_⟩
  refine ite2 (fun e => absurd (int_eq e) (by omega)) (fun _ => ?_)
  -- further
  refine ⟨_, rfl, _, rfl, by rw [S_len]; exact sz (by omega), _, _, rfl, rfl, _, rfl, by rw [S_len]; omega, by rw [S_len]; omega, fun L hL => ?_⟩
  have en : (((S u).length : Int) + 1).toNat = u.length + 1 := by rw [S_len]; omega
  rw [en]
  have hc : cost (r + 1) u.length = 1 + (u.length + 1) * cost r u.length := rfl
  have er : ((r + 1 : Nat) : Int) - 1 = (r : Int) := by omega
  have dL : d ≠ L := by
    obtain ⟨kvs, h1, _⟩ := hN
    exact ne_of_none h1 hL
  refine walk_r (fun i H' => ∃ (ks : List Nat) (Di : List (List Itm)), ks.length = i ∧ But d H H' ∧ H' L = some (.lst (ks.map natV)) ∧ NumD P w H' d Di ∧ (∃ t, Di = D ++ t) ∧ Di.length ≤ D.length + i * cost r u.length ∧ ∀ a k, ks[a]? = some k → Num Di r u (ps ++ [a]) k)
    ⟨[], D, rfl, But.of (same_new hL _), upd_same, hN.mono (same_new hL _), ⟨[], by simp⟩, by omega, fun a k e => by cases e⟩ ?_ ?_
  · rintro i H1 hi ⟨ks, Di, hk, b1, hL1, hN1, pre, hDi, hnum⟩
    refine ⟨rfl, yes ?_⟩
    refine ⟨_, rfl, _, rfl, _, rfl, by show 1 ≤ sizeLine; decide, fun t ht => ?_⟩
    have s2 := same_new ht (.tup [.int (0 + (i : Int))])
    refine catA1 (seqT s2 (b1.seqT hN.ext st)) upd_same (by rw [List.length_map]; omega) fun b H3 s3 hb => ?_
    have hi0 : V.int (0 + (i : Int)) = natV i := by unfold natV; rw [Int.zero_add]
    have hcc : (i + 1) * cost r u.length ≤ (u.length + 1) * cost r u.length := Nat.mul_le_mul_right _ (by omega)
    rw [Nat.succ_mul] at hcc
    refine ⟨_, rfl, _, _, rfl, rfl, _, rfl, u, ps ++ [i], b, d, Di, congrArg (fun z => [V.str (S u), V.ref b, V.int z, V.ref d]) er, by rw [List.map_append, List.map_singleton, ← hi0]; exact hb, fun p hp => ?_, hu, by rw [List.length_append, List.length_singleton]; omega, (hN1.mono s2).mono s3, by omega, fun n D' H4 b4 hN4 pre4 len4 hn4 => ?_⟩
    · rcases List.mem_append.mp hp with e | e
      · exact hle p e
      · rw [List.mem_singleton.mp e]
        omega
    have hL4 := b4 L _ (Ne.symm dL) (s3 _ _ (s2 _ _ hL1))
    have b5 : But d H H4 := b1.trans ((But.of (s2.trans s3)).trans b4)
    refine ⟨_, hL4, small_lt (by rw [List.length_map]; omega), ks ++ [n], D', by rw [List.length_append, List.length_singleton, hk], fun c o hc1 ho => ?_, ?_, ?_, ?_, by rw [Nat.succ_mul]; omega, fun a k hak => ?_⟩
    · rw [upd_ne (ne_of_none ho hL)]
      exact b5 c o hc1 ho
    · rw [upd_same, List.map_append]
      rfl
    · obtain ⟨kvs, h1, h2, h3, h4, h5⟩ := hN4
      refine ⟨kvs, by rw [upd_ne dL]; exact h1, h2.but (a := L) (fun vs e => by rw [hL4] at e; cases e) (fun c o hc2 ho => by rw [upd_ne hc2]; exact ho), h3, h4, h5⟩
    · obtain ⟨t1, e1⟩ := pre
      obtain ⟨t2, e2⟩ := pre4
      exact ⟨t1 ++ t2, by rw [e2, e1, List.append_assoc]⟩
    · by_cases ha : a < ks.length
      · rw [List.getElem?_append_left ha] at hak
        exact (hnum a k hak).mono pre4
      · have ha2 := (List.getElem?_eq_some_iff.mp hak).1
        rw [List.length_append, List.length_singleton] at ha2
        have ea : a = ks.length := by omega
        subst ea
        rw [List.getElem?_append_right (Nat.le_refl _)] at hak
        have e : n = k := by simpa using hak
        rw [← e, hk]
        exact hn4
  · rintro H1 ⟨ks, Di, hk, b1, hL1, hN1, pre, hDi, hnum⟩
    -- key
    refine ⟨_, rfl, _, rfl, L, ks.map (fun k : Nat => (k : Int)), rfl, SqL.of (by rw [hL1, List.map_map] <;> rfl), by rw [List.length_map]; omega, fun so c hso hcc => ?_⟩
    rw [List.length_map] at hcc
    refine ⟨so, _, c, rfl, upd_same, by omega, fun ns sl hpw hmem hlen hsl => ?_⟩
    refine ⟨sl, _, rfl, .inl ⟨SqL.of upd_same, fun t ht => ?_⟩⟩
    refine ⟨by show 2 ≤ sizeLine; decide, fun kt hkt => ?_⟩
    have s1 := same_new hso (SetO w so (fun j => decide (j ∈ ks.map (fun k : Nat => (k : Int)))) c)
    have s2 := same_new hsl (.lst (ns.map V.int))
    have s3 := same_new ht (.tup (ns.map V.int))
    have s4 := same_new hkt (.tup [.int ((r + 1 : Nat) : Int), .ref t])
    have sA := s1.trans (s2.trans (s3.trans s4))
    have hKA : KeyAt (upd (upd (upd (upd H1 so (SetO w so (fun j => decide (j ∈ ks.map (fun k : Nat => (k : Int)))) c)) sl (.lst (ns.map V.int))) t (.tup (ns.map V.int))) kt (.tup [.int ((r + 1 : Nat) : Int), .ref t])) (setK (r + 1) ns) kt :=
      ⟨_, upd_same, .cons rfl (.cons ⟨t, rfl, (s4 _ _ upd_same).trans (by rw [List.map_map]; rfl)⟩ .nil)⟩
    refine num_tail (hK := rfl) (hk := rfl) (hN1.mono sA) hKA (by omega) fun n D' H2 b2 hN2 pre2 len2 hn2 => ?_
    refine q n D' H2 (b1.trans ((But.of sA).trans b2)) hN2 ?_ (by omega) ⟨ks, ns, hk, fun a k hak => (hnum a k hak).mono pre2, hpw, fun z => ?_, hn2⟩
    · obtain ⟨t1, e1⟩ := pre
      obtain ⟨t2, e2⟩ := pre2
      exact ⟨t1 ++ t2, by rw [e2, e1, List.append_assoc]⟩
    · rw [hmem z, decide_eq_true_eq]
/-- each number of rounds, by induction -/
theorem ok_kind {f : Addr} {fd : FuncData} (F : Fun K "kind_number" "kind_number" sKindN f fd) (bF : Binds K fd ["word", "places", "rounds", "numbers"] []) (mF : mg "kind_number" = some (.ref f)) (tl : mg "len" = none) (tr : mg "range" = none) (tt : mg "tuple" = none) (tse : mg "set" = none) (tso : mg "sorted" = none)
    (cplain_kind : Cal P w K mg base "plain_kind" 2 ["word", "places"] (spPlain K)) : ∀ r : Nat, r ≤ 10 → Cal P w K mg base "kind_number" (3 + r) ["word", "places", "rounds", "numbers"] (spKindN P w K r)
  | 0, _ => ⟨f, fd, ok_kind0 F tl cplain_kind, mF, F.kp, bF⟩
  | r + 1, h => ⟨f, fd, ok_kindS (by omega) F tl tr tt tse tso (ok_kind F bF mF tl tr tt tse tso cplain_kind r (by omega)), mF, F.kp, bF⟩
end
end W8

set_option Elab.async false
set_option linter.all false
set_option maxRecDepth 100000
set_option maxHeartbeats 4000000
namespace W8
open PySem L2 NK GM
theorem ltS_lt {u : List Nat} {p : Nat} (h : p ≤ u.length) : ltS u p = (GM.lt u p).toList := by
  unfold ltS GM.lt
  by_cases e : p = 0
  · rw [if_pos e, if_pos e]; rfl
  · rw [if_neg e, if_neg e, List.getD_eq_getElem?_getD, List.getElem?_eq_getElem (by omega)]
    rfl
theorem toList_inj {a b : Option Nat} (h : a.toList = b.toList) : a = b := by
  cases a <;> cases b <;> simp_all
theorem cmpI_iff (a b c d : Nat) : cmpI a b = cmpI c d ↔ ((a < b ↔ c < d) ∧ (a = b ↔ c = d)) := by
  unfold cmpI
  constructor
  · intro h
    split at h <;> split at h <;> split at h <;> split at h <;> first | omega | (constructor <;> constructor <;> intro _ <;> omega)
  · rintro ⟨h1, h2⟩
    split <;> split <;> split <;> split <;> omega
theorem flatMap_inj {α β : Type} {f g : α → List β} : ∀ {Z : List α}, (∀ z ∈ Z, (f z).length = (g z).length) → (Z.flatMap f = Z.flatMap g ↔ ∀ z ∈ Z, f z = g z)
  | [], _ => by simp
  | z :: Z, h => by
    rw [List.flatMap_cons, List.flatMap_cons]
    constructor
    · intro e
      obtain ⟨e1, e2⟩ := List.append_inj e (h z List.mem_cons_self)
      have q := (flatMap_inj (f := f) (g := g) (fun y hy => h y (List.mem_cons_of_mem _ hy))).mp e2
      intro y hy
      rcases List.mem_cons.mp hy with e | e
      · rw [e]; exact e1
      · exact q y e
    · intro e
      rw [e z List.mem_cons_self, (flatMap_inj (f := f) (g := g) (fun y hy => h y (List.mem_cons_of_mem _ hy))).mpr fun y hy => e y (List.mem_cons_of_mem _ hy)]
theorem map_inr_inj {α β : Type} {f : List α} {g : List α} (h : f.map (Sum.inr : α → Sum β α) = g.map Sum.inr) : f = g := (List.map_inj_right (fun a b e => Sum.inr.inj e)).mp h
theorem map_inl_inj {α β : Type} {f : List α} {g : List α} (h : f.map (Sum.inl : α → Sum α β) = g.map Sum.inl) : f = g := (List.map_inj_right (fun a b e => Sum.inl.inj e)).mp h
theorem plain_iff {u v : List Nat} {Z : Prs} (b : Inb u.length v.length Z) : plainK u (Z.map (·.1)) = plainK v (Z.map (·.2)) ↔ Fit u v Z := by
  have e1 : letsOf u (Z.map (·.1)) = Z.map fun z => S (ltS u z.1) := by unfold letsOf; rw [List.map_map]; rfl
  have e2 : letsOf v (Z.map (·.2)) = Z.map fun z => S (ltS v z.2) := by unfold letsOf; rw [List.map_map]; rfl
  have o1 : ordOf (Z.map (·.1)) = Z.flatMap fun z => Z.map fun y => cmpI z.1 y.1 := by
    unfold ordOf
    rw [List.flatMap_map]
    congr 1
    funext z
    rw [List.map_map]
    rfl
  have o2 : ordOf (Z.map (·.2)) = Z.flatMap fun z => Z.map fun y => cmpI z.2 y.2 := by
    unfold ordOf
    rw [List.flatMap_map]
    congr 1
    funext z
    rw [List.map_map]
    rfl
  have L : letsOf u (Z.map (·.1)) = letsOf v (Z.map (·.2)) ↔ ∀ z ∈ Z, GM.lt u z.1 = GM.lt v z.2 := by
    rw [e1, e2, List.map_inj_left]
    constructor
    · intro h z hz
      have := S_inj (h z hz)
      rw [ltS_lt (b z hz).1, ltS_lt (b z hz).2] at this
      exact toList_inj this
    · intro h z hz
      rw [ltS_lt (b z hz).1, ltS_lt (b z hz).2, h z hz]
  have O : ordOf (Z.map (·.1)) = ordOf (Z.map (·.2)) ↔ ∀ z ∈ Z, ∀ y ∈ Z, (z.1 < y.1 ↔ z.2 < y.2) ∧ (z.1 = y.1 ↔ z.2 = y.2) := by
    rw [o1, o2, flatMap_inj (fun z _ => by rw [List.length_map, List.length_map])]
    constructor
    · intro h z hz y hy
      exact (cmpI_iff _ _ _ _).mp (List.map_inj_left.mp (h z hz) y hy)
    · intro h z hz
      exact List.map_inj_left.mpr fun y hy => (cmpI_iff _ _ _ _).mpr (h z hz y hy)
  constructor
  · intro h
    unfold plainK at h
    injection h with h1 h2
    injection h2 with h2 _
    have q1 := L.mp (map_inr_inj (Sum.inr.inj h1))
    have q2 := O.mp (map_inl_inj (Sum.inr.inj h2))
    exact fun z hz => ⟨q1 z hz, fun y hy => q2 z hz y hy⟩
  · intro h
    unfold plainK
    rw [L.mpr fun z hz => (h z hz).1, O.mpr fun z hz y hy => (h z hz).2 y hy]
theorem get_inj {α : Type} {D : List α} (nd : D.Nodup) {n m : Nat} {x y : α} (hn : D[n]? = some x) (hm : D[m]? = some y) : n = m ↔ x = y := by
  constructor
  · intro e
    subst e
    rw [hn] at hm
    exact Option.some.inj hm
  · intro e
    subst e
    obtain ⟨h1, e1⟩ := List.getElem?_eq_some_iff.mp hn
    obtain ⟨h2, e2⟩ := List.getElem?_eq_some_iff.mp hm
    exact (List.getElem_inj nd).mp (e1.trans e2.symm)
theorem sorted_ext : ∀ {a b : List Int}, a.Pairwise (· < ·) → b.Pairwise (· < ·) → (∀ z, z ∈ a ↔ z ∈ b) → a = b
  | [], [], _, _, _ => rfl
  | [], y :: _, _, _, h => absurd ((h y).mpr List.mem_cons_self) (by simp)
  | x :: _, [], _, _, h => absurd ((h x).mp List.mem_cons_self) (by simp)
  | x :: a, y :: b, ha, hb, h => by
    rw [List.pairwise_cons] at ha hb
    have e : x = y := by
      have h1 := (h x).mp List.mem_cons_self
      have h2 := (h y).mpr List.mem_cons_self
      rcases List.mem_cons.mp h1 with e | e
      · exact e
      · rcases List.mem_cons.mp h2 with f | f
        · exact f.symm
        · have := hb.1 x e
          have := ha.1 y f
          omega
    subst e
    rw [sorted_ext ha.2 hb.2 fun z => ?_]
    have hz := h z
    constructor
    · intro q
      rcases List.mem_cons.mp (hz.mp (List.mem_cons_of_mem _ q)) with e | e
      · have := ha.1 z q
        omega
      · exact e
    · intro q
      rcases List.mem_cons.mp (hz.mpr (List.mem_cons_of_mem _ q)) with e | e
      · have := hb.1 z q
        omega
      · exact e
theorem mem_cast {z : Nat} {ks : List Nat} : (z : Int) ∈ ks.map (fun k : Nat => (k : Int)) ↔ z ∈ ks := by
  constructor
  · intro h
    obtain ⟨x, hx, e⟩ := List.mem_map.mp h
    have : x = z := by omega
    exact this ▸ hx
  · exact fun h => List.mem_map_of_mem h
theorem win_snoc (r : Nat) (u v : List Nat) (Z : Prs) (z : Nat × Nat) : Win r u v (Z ++ [z]) ↔ Win r u v (z :: Z) :=
  ⟨fun h => Win.sub h fun x hx => by rcases List.mem_cons.mp hx with e | e <;> simp [e], fun h => Win.sub h fun x hx => by rcases List.mem_append.mp hx with e | e <;> simp_all⟩
theorem num_iff {D : List (List Itm)} (nd : D.Nodup) : ∀ {r : Nat} {u v : List Nat} {Z : Prs} {n m : Nat}, Inb u.length v.length Z → Num D r u (Z.map (·.1)) n → Num D r v (Z.map (·.2)) m → (n = m ↔ Win r u v Z)
  | 0, u, v, Z, n, m, b, hn, hm => (get_inj nd hn hm).trans (plain_iff b)
  | r + 1, u, v, Z, n, m, b, ⟨ks, ns, k1, k2, k3, k4, k5⟩, ⟨js, ms, j1, j2, j3, j4, j5⟩ => by
    have key : ∀ a c k j, ks[a]? = some k → js[c]? = some j → (k = j ↔ Win r u v ((a, c) :: Z)) := fun a c k j hk hj => by
      have ha := (List.getElem?_eq_some_iff.mp hk).1
      have hc := (List.getElem?_eq_some_iff.mp hj).1
      have q := num_iff nd (r := r) (u := u) (v := v) (Z := Z ++ [(a, c)]) (n := k) (m := j) (fun x hx => by
        rcases List.mem_append.mp hx with e | e
        · exact b x e
        · rw [List.mem_singleton.mp e]
          exact ⟨by dsimp only; omega, by dsimp only; omega⟩) (by rw [List.map_append]; exact k2 a k hk) (by rw [List.map_append]; exact j2 c j hj)
      exact q.trans (win_snoc r u v Z (a, c))
    rw [get_inj nd k5 j5]
    have e1 : setK (r + 1) ns = setK (r + 1) ms ↔ ns = ms := ⟨fun h => by
      unfold setK at h
      injection h with _ h
      injection h with h _
      exact map_inl_inj (Sum.inr.inj h), fun h => by rw [h]⟩
    rw [e1]
    have e2 : ns = ms ↔ ∀ z : Nat, z ∈ ks ↔ z ∈ js := by
      constructor
      · intro h z
        have a := k4 z
        have c := j4 z
        rw [h] at a
        have q := a.symm.trans c
        rwa [mem_cast, mem_cast] at q
      · intro h
        refine sorted_ext k3 j3 fun z => (k4 z).trans (Iff.trans ?_ (j4 z).symm)
        constructor
        · intro q
          obtain ⟨x, hx, e⟩ := List.mem_map.mp q
          exact List.mem_map.mpr ⟨x, (h x).mp hx, e⟩
        · intro q
          obtain ⟨x, hx, e⟩ := List.mem_map.mp q
          exact List.mem_map.mpr ⟨x, (h x).mpr hx, e⟩
    rw [e2]
    constructor
    · intro h
      refine ⟨fun p hp => ?_, fun p hp => ?_⟩
      · have hk : ks[p]? = some (ks[p]'(by omega)) := List.getElem?_eq_getElem (by omega)
        obtain ⟨c, hc⟩ := List.getElem?_of_mem ((h _).mp (List.getElem_mem (by omega : p < ks.length)))
        have hc2 := (List.getElem?_eq_some_iff.mp hc).1
        exact ⟨c, by omega, (key p c _ _ hk hc).mp rfl⟩
      · have hj : js[p]? = some (js[p]'(by omega)) := List.getElem?_eq_getElem (by omega)
        obtain ⟨c, hc⟩ := List.getElem?_of_mem ((h _).mpr (List.getElem_mem (by omega : p < js.length)))
        have hc2 := (List.getElem?_eq_some_iff.mp hc).1
        exact ⟨c, by omega, (key c p _ _ hc hj).mp rfl⟩
    · rintro ⟨h1, h2⟩ z
      constructor
      · intro hz
        obtain ⟨p, hp⟩ := List.getElem?_of_mem hz
        have hp2 := (List.getElem?_eq_some_iff.mp hp).1
        obtain ⟨q, hq, hw⟩ := h1 p (by omega)
        have hj : js[q]? = some (js[q]'(by omega)) := List.getElem?_eq_getElem (by omega)
        rw [(key p q _ _ hp hj).mpr hw]
        exact List.getElem_mem _
      · intro hz
        obtain ⟨q, hq⟩ := List.getElem?_of_mem hz
        have hq2 := (List.getElem?_eq_some_iff.mp hq).1
        obtain ⟨p, hp, hw⟩ := h2 q (by omega)
        have hk : ks[p]? = some (ks[p]'(by omega)) := List.getElem?_eq_getElem (by omega)
        rw [← (key p q _ _ hk hq).mpr hw]
        exact List.getElem_mem _
end W8

set_option Elab.async false
set_option linter.all false
set_option maxRecDepth 100000
set_option maxHeartbeats 4000000
namespace W8
open PySem L2
structure AlphOk (al : List Nat) : Prop where
  n1 : 1 ≤ al.length
  n3 : al.length ≤ 3
  asc : al.Pairwise (· < ·)
  lo : ∀ c ∈ al, 97 ≤ c ∧ c ≤ 122
theorem mem_small {c : Nat} (h : 97 ≤ c ∧ c ≤ 122) : c ∈ small := by
  unfold small
  exact List.mem_map.mpr ⟨c - 97, List.mem_range.mpr (by omega), by omega⟩
abbrev sCheckL : Stmt := top 22
theorem scCheckL : FnScope ["letters", "last", "letter"] ["letters"] (defScope sCheckL) := ⟨rfl, rfl, rfl, by decide +kernel, rfl, by decide +kernel, by decide +kernel⟩
def spCheckL : Sp := fun vs H Q _ => ∃ al, vs = [.str (S al)] ∧ AlphOk al ∧ Q (.str (S al)) H
abbrev sCheckW : Stmt := top 23
theorem scCheckW : FnScope ["word", "letters", "index", "letter"] ["word", "letters"] (defScope sCheckW) := ⟨rfl, rfl, rfl, by decide +kernel, rfl, by decide +kernel, by decide +kernel⟩
def spCheckW : Sp := fun vs H Q _ => ∃ u al, vs = [.str (S u), .str (S al)] ∧ (∀ c ∈ u, c ∈ al) ∧ ∀ H', Same H H' → Q (.str (S u)) H'
theorem single_lt (a b : Nat) : ([a] < [b]) ↔ a < b := by
  constructor
  · intro h
    cases h with
    | rel h => exact h
    | cons h => cases h
  · exact fun h => List.Lex.rel h
theorem walk_enumS {z : Str} : L2.Walk (Ites z) z.cps.size (fun _ => True) (fun i H v H' => ∃ T c, v = .ref T ∧ H T = none ∧ H' = upd H T (.tup [.int (i : Nat), .str ⟨#[c]⟩]) ∧ z.cps[i]? = some c) :=
  ⟨fun _ _ hi _ => hi, fun _ _ => Nat.le_refl _, fun _ _ _ _ _ _ y => y⟩
section
variable {P : Program} {w : World} {K : PySem.W.Frag} {mg : Str → Option Value} {base : Heap}
theorem ok_checkL {f : Addr} {fd : FuncData} {t1 t2 : Tok} (F : Fun K "check_letters" "check_letters" sCheckL f fd) (tl : mg "len" = none) (gM : mg "MOST_LETTERS" = some (.int 3 t1)) (gS : mg "SMALL" = some (.str "abcdefghijklmnopqrstuvwxyz" t2)) : FnOk P w K mg base CX0 1 f fd ["letters"] spCheckL := by
  refine F.ok scCheckL (fun vs H Q E h => ?_) (fun cdv A outer s H vs Q E hr h => ?_)
  · obtain ⟨al, rfl, _⟩ := h
    rfl
  obtain ⟨al, rfl, hA, q⟩ := h
  have n1 := hA.n1
  have n3 := hA.n3
  refine ⟨_, (pss_cons (ps_if (pt_not (pt_chain op_le op_le pe_int (pB1 call_len_str tl (pv 0)) (pe_glob (v := .int 3) rfl gM ⟨_, rfl⟩))) (pss_one ps_never) pss_nil)
    (pss_cons (ps_set (i := 1) scCheckL.nd rfl (Or.inl rfl) pe_str)
    (pss_cons (ps_for PassesOwn.never rfl (pi_str (pv 0)) (pg_name (i := 2) scCheckL.nd rfl (Or.inl rfl))
      (pss_cons (ps_if (PW.pt (pw_or (pt_cmpR op_notIn_sign (pv 2) (pe_glob (v := .str "abcdefghijklmnopqrstuvwxyz") rfl gS ⟨_, rfl⟩) rfl) (pw_or1 (pt_cmpR op_le_str (pv 2) (pv 1) (nomark _))))) (pss_one ps_never) pss_nil)
      (pss_one (ps_set (i := 1) scCheckL.nd rfl (Or.inl rfl) (pv 2)))))
    (pss_one (ps_ret (pv 0)))))), ?_⟩
  refine ⟨_, rfl, _, rfl, by rw [S_len]; exact sz (by omega), _, _, rfl, rfl, _, rfl, ?_⟩
  refine ite2 (fun _ => ?_) (fun e => absurd (decide_eq_true (by rw [S_len]; omega)) e)
  refine ⟨_, _, rfl, rfl, _, rfl, ?_⟩
  refine ite2 (fun e => ?_) (fun _ => ?_)
  · have e2 : decide (((S al).length : Int) ≤ 3) = true := decide_eq_true (by rw [S_len]; omega)
    rw [e2] at e
    cases e
  refine ⟨_, rfl, _, rfl, ?_⟩
  refine L2.for_it L2.walk_str (fun i σ H' => ∃ (l : List Nat) (x : Option V), σ = [some (.str (S al)), some (.str (S l)), x] ∧ H' = H ∧ ∀ y, al[i]? = some y → l < [y]) ⟨[], none, rfl, rfl, fun y _ => List.nil_lt_cons _ _⟩ (fun _ _ _ _ _ => trivial) ?_ ?_
  · rintro i x σ H1 H2 hi ⟨l, z, rfl, rfl, hl⟩ ⟨rfl, c, hc, rfl⟩
    have hc' : al[i]? = some c := by
      rw [← hc]
      show al[i]? = al.toArray[i]?
      simp
    refine ⟨_, rfl, c, S small, rfl, by rw [small_eq], _, rfl, ?_⟩
    have hm : c ∈ small := mem_small (hA.lo c (List.mem_of_getElem? hc'))
    refine ite2 (fun e => ?_) (fun _ => ?_)
    · have e2 : decide (c ∈ (S small).cps.toList) = true := decide_eq_true hm
      rw [e2] at e
      cases e
    refine ⟨_, rfl, _, rfl, S [c], S l, rfl, rfl, _, rfl, ?_⟩
    refine ite2 (fun e => ?_) (fun _ => ?_)
    · have e2 : decide ((S l).cps.toList < (S [c]).cps.toList) = true := decide_eq_true (hl c hc')
      rw [e2] at e
      cases e
    refine ⟨_, rfl, [c], _, rfl, rfl, fun y hy => (single_lt c y).mpr ?_⟩
    obtain ⟨h1, e1⟩ := List.getElem?_eq_some_iff.mp hc'
    obtain ⟨h2, e2⟩ := List.getElem?_eq_some_iff.mp hy
    have := List.pairwise_iff_getElem.mp hA.asc i (i + 1) h1 h2 (by omega)
    omega
  · rintro σ H1 ⟨l, z, rfl, rfl, hl⟩
    exact ⟨_, rfl, q⟩
theorem ok_checkW {f : Addr} {fd : FuncData} (F : Fun K "check_word" "check_word" sCheckW f fd) (te : mg "enumerate" = none) : FnOk P w K mg base CX0 1 f fd ["word", "letters"] spCheckW := by
  refine F.ok scCheckW (fun vs H Q E h => ?_) (fun cdv A outer s H vs Q E hr h => ?_)
  · obtain ⟨u, al, rfl, _⟩ := h
    rfl
  obtain ⟨u, al, rfl, hA, q⟩ := h
  refine ⟨_, (pss_cons (ps_for PassesOwn.never rfl (pi_enumS (by rfl) te (pa_cons (pv 0) pa_nil)) (pg_tup (by rfl) (pgs_cons (pg_name (i := 2) scCheckW.nd rfl (Or.inl rfl)) (pgs_cons (pg_name (i := 3) scCheckW.nd rfl (Or.inl rfl)) pgs_nil)))
      (pss_one (ps_if (pt_cmpR op_notIn_sign (pv 3) (pv 1) rfl) (pss_one ps_never) pss_nil)))
    (pss_one (ps_ret (pv 0)))), ?_⟩
  refine ⟨_, rfl, _, rfl, ?_⟩
  refine L2.for_it (walk_enumS (z := S u)) (fun i σ H' => ∃ (x y : Option V), σ = [some (.str (S u)), some (.str (S al)), x, y] ∧ Same H H') ⟨none, none, rfl, Same.refl H⟩ (fun _ _ _ _ _ => trivial) ?_ ?_
  · rintro i x σ H1 H2 hi ⟨x1, y1, rfl, s1⟩ ⟨T, c, rfl, hT, rfl, hc⟩
    have hc' : u[i]? = some c := by
      rw [← hc]
      show u[i]? = u.toArray[i]?
      simp
    have s2 := s1.trans (same_new hT (.tup [.int (i : Int), .str ⟨#[c]⟩]))
    refine ⟨T, _, rfl, SqT.of upd_same, rfl, _, _, rfl, _, _, rfl, rfl, ?_⟩
    refine ⟨_, rfl, _, rfl, c, S al, rfl, rfl, _, rfl, ?_⟩
    refine ite2 (fun e => ?_) (fun _ => ?_)
    · have e2 : decide (c ∈ (S al).cps.toList) = true := decide_eq_true (hA c (List.mem_of_getElem? hc'))
      rw [e2] at e
      cases e
    exact ⟨_, _, rfl, s2⟩
  · rintro σ H1 ⟨x1, y1, rfl, s1⟩
    exact ⟨_, rfl, q H1 s1⟩
end
end W8

set_option Elab.async false
set_option linter.all false
set_option maxRecDepth 100000
set_option maxHeartbeats 4000000
namespace W8
open PySem L2 NK GM
/-! ### a game as an object -/
def gf (l w r p : V) : List (Str × V) := [("letters", l), ("words", w), ("rounds", r), ("pairs", p)]
theorem gf1 (l : V) : putF "letters" l [] = [(("letters" : Str), l)] := rfl
theorem gf2 (l w : V) : putF "words" w [(("letters" : Str), l)] = [(("letters" : Str), l), (("words" : Str), w)] := by
  show (if ("letters" : Str) = "words" then _ else _) = _
  rw [if_neg (by decide +kernel)]
  rfl
theorem gf3 (l w r : V) : putF "rounds" r [(("letters" : Str), l), (("words" : Str), w)] = [(("letters" : Str), l), (("words" : Str), w), (("rounds" : Str), r)] := by
  show (if ("letters" : Str) = "rounds" then _ else _ :: (if ("words" : Str) = "rounds" then _ else _)) = _
  rw [if_neg (by decide +kernel), if_neg (by decide +kernel)]
  rfl
theorem gf4 (l w r p : V) : putF "pairs" p [(("letters" : Str), l), (("words" : Str), w), (("rounds" : Str), r)] = gf l w r p := by
  show (if ("letters" : Str) = "pairs" then _ else _ :: (if ("words" : Str) = "pairs" then _ else _ :: (if ("rounds" : Str) = "pairs" then _ else _))) = _
  rw [if_neg (by decide +kernel), if_neg (by decide +kernel), if_neg (by decide +kernel)]
  rfl
theorem gf_letters (l w r p : V) : (gf l w r p).lookup ("letters" : Str) = some l := by rfl
theorem gf_words (l w r p : V) : (gf l w r p).lookup ("words" : Str) = some w := by rfl
theorem gf_rounds (l w r p : V) : (gf l w r p).lookup ("rounds" : Str) = some r := by rfl
theorem gf_pairs (l w r p : V) : (gf l w r p).lookup ("pairs" : Str) = some p := by rfl
theorem gf_no (l w r p : V) {m : Str} (h : (m == ("letters" : Str)) = false ∧ (m == ("words" : Str)) = false ∧ (m == ("rounds" : Str)) = false ∧ (m == ("pairs" : Str)) = false) : (gf l w r p).lookup m = none := by
  unfold gf
  rw [List.lookup_cons, h.1, List.lookup_cons, h.2.1, List.lookup_cons, h.2.2.1, List.lookup_cons, h.2.2.2]
  rfl
structure GameT (K : PySem.W.Frag) (mg : Str → Option Value) (C : Addr) : Prop where
  cl : Cls K C
  nL : NoAttr K C "letters"
  nW : NoAttr K C "words"
  nR : NoAttr K C "rounds"
  nP : NoAttr K C "pairs"
  con : ∃ u, Con K C "MOST_ROUNDS" (.int 3) u
  mgC : mg "Game" = some (.ref C)
abbrev sInit : Stmt := inClass (top 29) 1
theorem scInit : FnScope ["self", "letters", "one", "other", "rounds"] ["self", "letters", "one", "other", "rounds"] (defScope sInit) := ⟨rfl, rfl, rfl, by decide +kernel, rfl, by decide +kernel, by decide +kernel⟩
def spInit (C : Addr) : Sp := fun vs H Q _ => ∃ (p dx : Addr) (al u v : List Nat) (r : Int), vs = [.ref p, .str (S al), .str (S u), .str (S v), .int r] ∧ H p = some (.ins C dx []) ∧ AlphOk al ∧ (∀ c ∈ u, c ∈ al) ∧ (∀ c ∈ v, c ∈ al) ∧ 0 ≤ r ∧ r ≤ 3 ∧
  ∀ H' wt pt, But p H H' → H' p = some (.ins C dx (gf (.str (S al)) (.ref wt) (.int r) (.ref pt))) → H' wt = some (.tup [.str (S u), .str (S v)]) → H' pt = some (.tup []) → Q .non H'
section
variable {P : Program} {w : World} {K : PySem.W.Frag} {mg : Str → Option Value} {base : Heap}
theorem ok_init {f C : Addr} {fd : FuncData} (F : Fun K "__init__" "Game.__init__" sInit f fd) (T : GameT K mg C) (ccheck_letters : Cal P w K mg base "check_letters" 1 ["letters"] spCheckL) (ccheck_word : Cal P w K mg base "check_word" 1 ["word", "letters"] spCheckW) :
    FnOk P w K mg base CX0 2 f fd ["self", "letters", "one", "other", "rounds"] (spInit C) := by
  refine F.ok scInit (fun vs H Q E h => ?_) (fun cdv A outer s H vs Q E hr h => ?_)
  · obtain ⟨p, dx, al, u, v, r, rfl, _⟩ := h
    rfl
  obtain ⟨p, dx, al, u, v, r, rfl, hp, hA, hu, hv, r0, r3, q⟩ := h
  obtain ⟨uc, hcon⟩ := T.con
  refine ⟨_, (pss_cons (ps_fld (pv 0) (pcall ccheck_letters hr (pa_cons (pv 1) pa_nil)) rfl)
    (pss_cons (ps_fld (pv 0) (pe_tup (pa_cons (pcall ccheck_word hr (pa_cons (pv 2) (pa_cons (pv 1) pa_nil))) (pa_cons (pcall ccheck_word hr (pa_cons (pv 3) (pa_cons (pv 1) pa_nil))) pa_nil))) rfl)
    (pss_cons (ps_if (pt_not (pt_chain op_le op_le pe_int (pv 4) (pe_con (pv 0) rfl))) (pss_one ps_never) pss_nil)
    (pss_cons (ps_fld (pv 0) (pv 4) rfl)
    (pss_one (ps_fld (pv 0) (pe_tup pa_nil) rfl)))))), ?_⟩
  refine ⟨_, rfl, al, rfl, hA, _, rfl, p, C, dx, _, rfl, hp, T.cl, T.nL, (by show 0 < 1000; decide), ?_⟩
  refine ⟨_, rfl, _, rfl, u, al, rfl, hu, fun H1 s1 => ?_⟩
  refine ⟨_, rfl, _, rfl, v, al, rfl, hv, fun H2 s2 => ?_⟩
  have h2 := (s1.trans s2) p _ upd_same
  refine ⟨by show 2 ≤ sizeLine; decide, fun wt hwt => ?_⟩
  have nw : p ≠ wt := ne_of_none h2 hwt
  refine ⟨_, rfl, p, C, dx, _, rfl, by rw [upd_ne nw]; exact h2, T.cl, T.nW, (by show 1 < 1000; decide), ?_⟩
  refine ⟨_, rfl, _, _, rfl, rfl, _, rfl, ?_⟩
  refine ite2 (fun _ => ?_) (fun e => absurd (decide_eq_true r0) e)
  refine ⟨_, rfl, p, C, dx, _, _, uc, rfl, upd_same, T.cl, hcon, by rw [gf1, gf2] <;> rfl, _, _, rfl, rfl, _, rfl, ?_⟩
  refine ite2 (fun e => ?_) (fun _ => ?_)
  · have e2 : decide (r ≤ 3) = true := decide_eq_true r3
    rw [e2] at e
    cases e
  refine ⟨_, rfl, _, rfl, p, C, dx, _, rfl, upd_same, T.cl, T.nR, by rw [gf1, gf2]; show 2 < 1000; decide, ?_⟩
  refine ⟨Nat.zero_le _, fun pt hpt => ?_⟩
  have np : p ≠ pt := ne_of_none upd_same hpt
  refine ⟨_, rfl, p, C, dx, _, rfl, by rw [upd_ne np]; exact upd_same, T.cl, T.nP, by rw [gf1, gf2, gf3]; show 3 < 1000; decide, ?_⟩
  have nwp : wt ≠ pt := by
    intro e
    subst e
    rw [upd_ne (Ne.symm nw), upd_ne (Ne.symm nw), upd_same] at hpt
    cases hpt
  refine q _ wt pt (fun b o nb ho => ?_) (by rw [upd_same, gf1, gf2, gf3, gf4]) (by rw [upd_ne (Ne.symm nw), upd_ne nwp, upd_ne (Ne.symm nw), upd_ne (Ne.symm nw), upd_same]) (by rw [upd_ne (Ne.symm np), upd_same])
  have ho2 := (s1.trans s2) b o (by rw [upd_ne nb]; exact ho)
  have nbw : b ≠ wt := ne_of_none ho2 hwt
  have ho3 : (upd (upd (upd H2 wt (.tup [.str (S u), .str (S v)])) p (.ins C dx (putF "words" (.ref wt) (putF "letters" (.str (S al)) [])))) p (.ins C dx (putF "rounds" (.int r) (putF "words" (.ref wt) (putF "letters" (.str (S al)) []))))) b = some o := by
    rw [upd_ne nb, upd_ne nb, upd_ne nbw]
    exact ho2
  rw [upd_ne nb, upd_ne (ne_of_none ho3 hpt)]
  exact ho3
end
end W8

set_option Elab.async false
set_option linter.all false
set_option maxRecDepth 100000
set_option maxHeartbeats 4000000
namespace W8
open PySem L2 NK GM
structure GameSt (H : Hp) (p C dx wt pt : Addr) (al u v : List Nat) (r : Nat) (prs : Prs) (qs : List Addr) : Prop where
  o : H p = some (.ins C dx (gf (.str (S al)) (.ref wt) (.int (r : Int)) (.ref pt)))
  w : H wt = some (.tup [.str (S u), .str (S v)])
  t : H pt = some (.tup (qs.map V.ref))
  q : Paired (fun (q : Addr) (pr : Nat × Nat) => H q = some (.tup [natV pr.1, natV pr.2])) qs prs
theorem GameSt.mono {H H' : Hp} {p C dx wt pt : Addr} {al u v : List Nat} {r : Nat} {prs : Prs} {qs : List Addr} (s : Same H H') (g : GameSt H p C dx wt pt al u v r prs qs) : GameSt H' p C dx wt pt al u v r prs qs :=
  ⟨s _ _ g.o, s _ _ g.w, s _ _ g.t, Paired.mapP g.q fun _ _ z => s _ _ z⟩
theorem paired_get {α β : Type} {F : α → β → Prop} : ∀ {xs : List α} {ys : List β} {i : Nat} {x : α}, Paired F xs ys → xs[i]? = some x → ∃ y, ys[i]? = some y ∧ F x y
  | _, _, _, _, .nil, h => by cases h
  | _, _, 0, _, .cons h _, e => by cases e; exact ⟨_, rfl, h⟩
  | _ :: xs, _ :: ys, i + 1, x, .cons _ t, e => by
    have e' : xs[i]? = some x := by simpa using e
    obtain ⟨y, h1, h2⟩ := paired_get t e'
    exact ⟨y, by simpa using h1, h2⟩
def sel (j : Nat) (z : Nat × Nat) : Nat := if j = 0 then z.1 else z.2
theorem cost_mono : ∀ {r n m : Nat}, n ≤ m → cost r n ≤ cost r m
  | 0, _, _, _ => Nat.le_refl _
  | r + 1, n, m, h => by
    show 1 + (n + 1) * cost r n ≤ 1 + (m + 1) * cost r m
    exact Nat.add_le_add_left (Nat.mul_le_mul (by omega) (cost_mono h)) _
theorem cost_le {r n : Nat} (h : n ≤ 60) (hr : r ≤ 3) : cost r n ≤ 400000 := by
  refine Nat.le_trans (cost_mono h) ?_
  rcases r with _ | _ | _ | _ | r
  · decide
  · decide
  · decide
  · decide
  · omega
abbrev sWins : Stmt := inClass (top 29) 6
theorem scWins : FnScope ["self", "numbers", "left", "chosen", "one", "side", "pair"] ["self"] (defScope sWins) := ⟨rfl, rfl, rfl, by decide +kernel, rfl, by decide +kernel, by decide +kernel⟩
def spWins (C : Addr) : Sp := fun vs H Q _ => ∃ (p dx wt pt : Addr) (al u v : List Nat) (r : Nat) (prs : Prs) (qs : List Addr), vs = [.ref p] ∧ GameSt H p C dx wt pt al u v r prs qs ∧ u.length ≤ 60 ∧ v.length ≤ 60 ∧ r ≤ 3 ∧ prs.length ≤ r ∧ Inb u.length v.length prs ∧
  ∀ (b : Bool) H', Same H H' → (b = true ↔ Win (r - prs.length) u v prs) → Q (.bl b) H'
section
variable {P : Program} {w : World} {K : PySem.W.Frag} {mg : Str → Option Value} {base : Heap}
theorem ok_wins {f C : Addr} {fd : FuncData} (F : Fun K "wins" "Game.wins" sWins f fd) (T : GameT K mg C) (tl : mg "len" = none) (tt : mg "tuple" = none) (ckind : ∀ r : Nat, r ≤ 10 → Cal P w K mg base "kind_number" (3 + r) ["word", "places", "rounds", "numbers"] (spKindN P w K r)) :
    FnOk P w K mg base CX0 7 f fd ["self"] (spWins C) := by
  refine F.ok scWins (fun vs H Q E h => ?_) (fun cdv A outer s H vs Q E hr h => ?_)
  · obtain ⟨p, dx, wt, pt, al, u, v, r, prs, qs, rfl, _⟩ := h
    rfl
  obtain ⟨p, dx, wt, pt, al, u, v, r, prs, qs, rfl, G, hu, hv, r3, hpr, hin, q⟩ := h
  have hql : qs.length = prs.length := Paired.length G.q
  have c1 := ckind (r - prs.length) (by omega)
  have hk : 3 + (r - prs.length) ≤ 6 := by omega
  refine ⟨_, (pss_cons (ps_set (i := 1) scWins.nd rfl (Or.inl rfl) NK.pe_nnew)
    (pss_cons (ps_set (i := 2) scWins.nd rfl (Or.inl rfl) (pe_op op_sub (pe_fld (pv 0) rfl) (pB1 call_len_seq tl (pe_fld (pv 0) rfl))))
    (pss_cons (ps_setLc (i := 3) (own := [("side", 5)]) (g := gName 5) (tt := tYes) rfl scWins.nd rfl rfl (sw_true rfl rfl rfl (by decide +kernel)) (pi_tup (pe_tup (pa_cons pe_int (pa_cons pe_int pa_nil))))
      (blkOk_by (own := [("side", 5)]) (N := ["self", "numbers", "left", "chosen", "one", "side", "pair"]) (sc := defScope sWins) (by decide +kernel)) (fun _ _ _ _ _ => (pg_name (i := 5) scWins.nd rfl (Or.inr rfl))) (fun _ _ _ _ _ => pts_nil)
      (fun _ _ _ _ _ => (pT1 (r := rTupOf K) cr_tupOf tt (pe_lc (wi := iTup K (tFld K (tVar 0) "pairs")) (own := [("pair", 6)]) (g := gName 6) (tt := tYes) rfl scWins.nd (pi_tup (pe_fld (pv 0) rfl)) (blkOk_by (own := [("pair", 6)]) (N := ["self", "numbers", "left", "chosen", "one", "side", "pair"]) (sc := { kind := .function, names := [(".0", .local), ("side", .cell), ("tuple", .globalImplicit), ("self", .cell)], isGenerator := false, isCoroutine := false }) (by decide +kernel)) (fun _ _ _ _ _ => (pg_name (i := 6) scWins.nd rfl (Or.inl rfl))) (fun _ _ _ _ _ => pts_nil)
        (fun _ _ _ _ _ => (pe_ix (r := rIxT K) ix_tup (pv 6) (pv 5) (fun _ _ => rfl)))))))
    (pss_cons (ps_set (i := 4) scWins.nd rfl (Or.inl rfl) (pcall c1 hr (pa_cons (pixT (pe_fld (pv 0) rfl) pe_int) (pa_cons (pixL (pv 3) pe_int) (pa_cons (pv 2) (pa_cons (pv 1) pa_nil)))) hk))
    (pss_one (ps_ret (pe_cmpR op_eq (pv 4) (pcall c1 hr (pa_cons (pixT (pe_fld (pv 0) rfl) pe_int) (pa_cons (pixL (pv 3) pe_int) (pa_cons (pv 2) (pa_cons (pv 1) pa_nil)))) hk) (nomark _)))))))), ?_⟩
  intro d hd
  have s1 := same_new hd (ND P w d [])
  have G1 := G.mono s1
  refine ⟨_, rfl, p, C, dx, _, _, rfl, G1.o, T.cl, T.nR, gf_rounds _ _ _ _, _, rfl, p, C, dx, _, _, rfl, G1.o, T.cl, T.nP, gf_pairs _ _ _ _, pt, _, rfl, .inr (SqT.of G1.t), _, _, rfl, rfl, ?_⟩
  -- chosen
  refine ⟨by show 2 ≤ sizeLine; decide, fun a0 ha0 => ?_⟩
  have s2 := same_new ha0 (.tup [.int 0, .int 1])
  refine ⟨a0, rfl, ⟨_, SqT.of upd_same⟩, fun L hL => ?_⟩
  refine walk_t (xs := [.int 0, .int 1]) (fun i H' => Same (upd (upd H d (ND P w d [])) a0 (.tup [.int 0, .int 1])) H' ∧ ∃ ts : List Addr, ts.length = i ∧ H' L = some (.lst (ts.map V.ref)) ∧ ∀ (j : Nat) t, ts[j]? = some t → H' t = some (.tup ((prs.map (sel j)).map natV)))
    ⟨same_new hL _, [], rfl, upd_same, fun j t e => by cases e⟩ (fun i H' ⟨s3, _⟩ => SqT.of (s3 _ _ upd_same)) ?_ ?_
  · rintro i x H3 hx ⟨s3, ts, hts, hL3, hall⟩
    have hx2 : i ≤ 1 ∧ x = .int (i : Int) := by
      rcases i with _ | _ | i
      · cases hx; exact ⟨by omega, rfl⟩
      · cases hx; exact ⟨by omega, rfl⟩
      · cases hx
    obtain ⟨hi, rfl⟩ := hx2
    have G3 := G1.mono (s2.trans s3)
    refine ⟨rfl, yes ?_⟩
    refine ⟨_, rfl, p, C, dx, _, _, rfl, G3.o, T.cl, T.nP, gf_pairs _ _ _ _, pt, rfl, ⟨_, SqT.of G3.t⟩, fun D hD => ?_⟩
    refine walk_t (xs := qs.map V.ref) (fun j H' => Same H3 H' ∧ H' D = some (.lst (((prs.take j).map (sel i)).map natV))) ⟨same_new hD _, upd_same⟩ (fun j H' ⟨s4, _⟩ => SqT.of (s4 _ _ G3.t)) ?_ ?_
    · rintro j y H4 hy ⟨s4, hD4⟩
      obtain ⟨qa, hqa, rfl, _⟩ := get_map hy
      obtain ⟨pr, hprj, hq⟩ := paired_get G3.q hqa
      refine ⟨rfl, yes ?_⟩
      have hat : atI [natV pr.1, natV pr.2] (i : Int) = some (natV (sel i pr)) := by
        rcases i with _ | _ | i
        · rfl
        · rfl
        · omega
      refine ⟨_, rfl, _, rfl, qa, _, _, _, rfl, rfl, SqT.of (s4 _ _ hq), hat, ?_⟩
      refine ⟨_, hD4, small_lt ?_, same_upd s4 hD, ?_⟩
      · rw [List.length_map, List.length_map, List.length_take]
        omega
      · rw [upd_same, take_map _ hprj, List.map_append]
        rfl
    · rintro H4 ⟨s4, hD4⟩
      rw [List.length_map, hql, List.take_length] at hD4
      refine ⟨D, _, rfl, .inl ⟨SqL.of hD4, fun t ht => ?_⟩⟩
      have s5 := same_new ht (.tup ((prs.map (sel i)).map natV))
      have hL5 := s5 _ _ (s4 _ _ hL3)
      have ntL : t ≠ L := fun e => by
        rw [e, s4 _ _ hL3] at ht
        cases ht
      refine ⟨_, hL5, small_lt (by rw [List.length_map]; omega), same_upd (s3.trans (s4.trans s5)) hL, ts ++ [t], by rw [List.length_append, hts]; rfl, ?_, fun j t' hj => ?_⟩
      · rw [upd_same, List.map_append]
        rfl
      · by_cases hjl : j < ts.length
        · rw [List.getElem?_append_left hjl] at hj
          have h1 := hall j t' hj
          have n1 : t' ≠ L := ne_of h1 hL3 (by intro z; cases z)
          rw [upd_ne n1]
          exact s5 _ _ (s4 _ _ h1)
        · have hj2 := (List.getElem?_eq_some_iff.mp hj).1
          rw [List.length_append, List.length_singleton] at hj2
          have ej : j = ts.length := by omega
          rw [ej, List.getElem?_append_right (Nat.le_refl _)] at hj
          have et : t = t' := by simpa using hj
          rw [← et, upd_ne ntL, ej, hts]
          exact upd_same
  · rintro H3 ⟨s3, ts, hts, hL3, hall⟩
    obtain ⟨t0, t1, rfl⟩ : ∃ t0 t1, ts = [t0, t1] := by
      match ts, hts with
      | [t0, t1], _ => exact ⟨t0, t1, rfl⟩
    have ht0 := hall 0 t0 rfl
    have ht1 := hall 1 t1 rfl
    have G3 := G1.mono (s2.trans s3)
    have hd3 : H3 d = some (ND P w d []) := s3 _ _ (s2 _ _ upd_same)
    have eleft : (r : Int) - ((qs.map V.ref).length : Int) = ((r - prs.length : Nat) : Int) := by rw [List.length_map, hql]; omega
    have cu := cost_le (r := r - prs.length) hu (by omega)
    have cv := cost_le (r := r - prs.length) hv (by omega)
    -- one
    refine ⟨_, rfl, p, C, dx, _, _, rfl, G3.o, T.cl, T.nW, gf_words _ _ _ _, wt, _, _, _, rfl, rfl, SqT.of G3.w, rfl, _, rfl, L, _, _, _, rfl, rfl, SqL.of hL3, rfl, _, rfl, _, rfl, u, prs.map (sel 0), t0, d, [],
      congrArg (fun z => [V.str (S u), V.ref t0, V.int z, V.ref d]) eleft, SqT.of ht0, fun y hy => ?_, hu, by rw [List.length_map]; omega, ⟨[], hd3, (fun _ h => nomatch h), rfl, (fun _ _ e => by cases e), List.nodup_nil⟩, by show 0 + _ ≤ _; omega, fun n D1 H5 b5 hN5 pre5 len5 hn5 => ?_⟩
    · obtain ⟨z, hz, rfl⟩ := List.mem_map.mp hy
      exact (hin z hz).1
    have S5 : Same H H5 := fun b o e => b5 b o (ne_of_none e hd) (s3 _ _ (s2 _ _ (s1 _ _ e)))
    have G5 := G.mono S5
    have hL5 := b5 L _ (ne_of hL3 hd3 (by intro z; cases z)) hL3
    have ht5 := b5 t1 _ (ne_of ht1 hd3 (by intro z; cases z)) ht1
    have len5' : D1.length ≤ cost (r - prs.length) u.length := by
      have : ([] : List (List Itm)).length = 0 := rfl
      omega
    refine ⟨_, rfl, _, rfl, p, C, dx, _, _, rfl, G5.o, T.cl, T.nW, gf_words _ _ _ _, wt, _, _, _, rfl, rfl, SqT.of G5.w, rfl, _, rfl, L, _, _, _, rfl, rfl, SqL.of hL5, rfl, _, rfl, _, rfl, v, prs.map (sel 1), t1, d, D1,
      congrArg (fun z => [V.str (S v), V.ref t1, V.int z, V.ref d]) eleft, SqT.of ht5, fun y hy => ?_, hv, by rw [List.length_map]; omega, hN5, by omega, fun m D2 H6 b6 hN6 pre6 len6 hn6 => ?_⟩
    · obtain ⟨z, hz, rfl⟩ := List.mem_map.mp hy
      exact (hin z hz).2
    refine ⟨rfl, q _ H6 (fun b o e => b6 b o (ne_of_none e hd) (S5 b o e)) ?_⟩
    obtain ⟨kvs, _, _, hk3, _, nd⟩ := hN6
    rw [← num_iff nd hin (hn5.mono pre6) hn6, decide_eq_true_eq]
    constructor
    · intro e
      have : (n : Int) = (m : Int) := by injection e
      omega
    · intro e
      rw [e]
end
end W8

set_option Elab.async false
set_option linter.all false
set_option maxRecDepth 100000
set_option maxHeartbeats 4000000
namespace W8
open PySem L2 PySem.StrLaws PySem.Builtin PySem.Builtin.Str
theorem occ_stays (s sub : Str) (hi : Nat) : ∀ (l : List Nat) (st : Array Nat × Nat), st.fst.size = 1 → (forIn l st (occBody s sub hi 1)).run.fst = st.fst
  | [], st, _ => rfl
  | a :: l, st, h => by
    rw [List.forIn_cons]
    unfold occBody
    have c : ¬ (((st.fst.size < 1 ∧ st.snd ≤ a) ∧ a + sub.length ≤ hi) ∧ subAt s sub a = true) := fun z => by omega
    rw [if_neg c]
    exact occ_stays s sub hi l _ h
theorem occ_find (s sub : Str) (hi : Nat) : ∀ (l : List Nat) (free : Nat), (∀ i ∈ l, free ≤ i) →
    (forIn l ((#[] : Array Nat), free) (occBody s sub hi 1)).run.fst.toList.head? = l.find? fun i => decide (i + sub.length ≤ hi ∧ subAt s sub i = true)
  | [], free, _ => rfl
  | a :: l, free, hf => by
    rw [List.forIn_cons, List.find?_cons]
    unfold occBody
    have ha : free ≤ a := hf a List.mem_cons_self
    by_cases hc : a + sub.length ≤ hi ∧ subAt s sub a = true
    · rw [if_pos ⟨⟨⟨(by show 0 < 1; decide), ha⟩, hc.1⟩, hc.2⟩, decide_eq_true hc]
      have q := occ_stays s sub hi l ((#[] : Array Nat).push a, a + sub.length) rfl
      show (forIn l ((#[] : Array Nat).push a, a + sub.length) (occBody s sub hi 1)).run.fst.toList.head? = some a
      rw [q]
      rfl
    · rw [if_neg (fun z => hc ⟨z.1.2, z.2⟩), decide_eq_false hc]
      exact occ_find s sub hi l free fun i hi' => hf i (List.mem_cons_of_mem _ hi')
/-- letters.index(letter) -/
theorem index_of {al : List Nat} {c : Nat} (h : c ∈ al) : (∃ k, Txt.index0 (S al) (S [c]) = some k) ∧ ∀ k, Txt.index0 (S al) (S [c]) = some k → al[k]? = some c := by
  have e : Txt.index0 (S al) (S [c]) = (List.range' 0 ((S al).length + 1 - 0)).find? fun i => decide (i + (⟨#[c]⟩ : Str).length ≤ (S al).length ∧ subAt (S al) ⟨#[c]⟩ i = true) := by
    unfold Txt.index0
    rw [occ_eq]
    exact occ_find (S al) ⟨#[c]⟩ (S al).length _ 0 fun _ _ => Nat.zero_le _
  rw [e]
  constructor
  · obtain ⟨i, hi⟩ := List.getElem?_of_mem h
    have hs := (subAt_one (S al) c i).mpr hi
    have := List.find?_isSome (xs := List.range' 0 ((S al).length + 1 - 0)) (p := fun i => decide (i + (⟨#[c]⟩ : Str).length ≤ (S al).length ∧ subAt (S al) ⟨#[c]⟩ i = true))
    rw [← Option.isSome_iff_exists]
    refine this.mpr ⟨i, ?_, decide_eq_true hs⟩
    have hl := hs.1
    rw [List.mem_range'_1]
    have : (⟨#[c]⟩ : Str).length = 1 := rfl
    omega
  · intro k hk
    have q := List.find?_some hk
    exact (subAt_one (S al) c k).mp (of_decide_eq_true q)
end W8

set_option Elab.async false
set_option linter.all false
set_option maxRecDepth 100000
set_option maxHeartbeats 4000000
namespace W8
open PySem L2
/-! ### plain data and their kinds -/
def tyN : PyData → String
  | .none => "NoneType"
  | .bool _ => "bool"
  | .int _ => "int"
  | .str _ => "str"
  | .list _ => "list"
  | .tuple _ => "tuple"
  | .dict _ => "dict"
/-- lists nested less than n deep, none of them too long -/
def okE : Nat → PyData → Prop
  | 0, _ => False
  | n + 1, .list es => es.length ≤ 100000 ∧ ∀ x ∈ es, okE n x
  | n + 1, .tuple es => es.length ≤ 100000 ∧ ∀ x ∈ es, okE n x
  | _ + 1, _ => True
abbrev okAll (n : Nat) (es : List PyData) : Prop := es.length ≤ 100000 ∧ ∀ x ∈ es, okE n x
theorem dpAll_get {K : PySem.W.Frag} {H : Hp} : ∀ {vs : List V} {ds : List PyData} {i : Nat} {d : PyData}, DpAll K H vs ds → ds[i]? = some d → ∃ v, vs[i]? = some v ∧ Dp K H v d
  | _, _, _, _, .nil, h => by cases h
  | _, _, 0, _, .cons h _, e => by cases e; exact ⟨_, rfl, h⟩
  | v :: vs, d' :: ds, i + 1, d, .cons _ t, e => by
    have e' : ds[i]? = some d := by simpa using e
    obtain ⟨y, h1, h2⟩ := dpAll_get t e'
    exact ⟨y, by simpa using h1, h2⟩
theorem dpAll_length {K : PySem.W.Frag} {H : Hp} : ∀ {vs : List V} {ds : List PyData}, DpAll K H vs ds → vs.length = ds.length
  | _, _, .nil => rfl
  | _, _, .cons _ t => by rw [List.length_cons, List.length_cons, dpAll_length t]
theorem dp_ty {K : PySem.W.Frag} {H : Hp} {v : V} {d : PyData} (h : Dp K H v d) : TyX K H v (.type (tyN d)) := by
  cases h with
  | non => exact .base .non
  | bl b => exact .base (.bl b)
  | int i => exact .base (.int i)
  | str x => exact .base (.str x)
  | lst h _ =>
    rcases h with (h | ⟨o, h⟩) | ⟨o, its, n, hk, hc, _⟩
    · exact .base (.lst h)
    · exact .base (.frz h)
    · exact .kList hk hc
  | tup h _ =>
    rcases h with (h | ⟨o, h⟩) | ⟨o, its, n, hk, hc, _⟩
    · exact .base (.tup h)
    · exact .fTuple h
    · exact .kTuple hk hc
mutual
theorem dp_mono {K : PySem.W.Frag} {H H' : Hp} (s : Same H H') : ∀ {v : V} {d : PyData}, Dp K H v d → Dp K H' v d
  | _, _, .non => .non
  | _, _, .bl b => .bl b
  | _, _, .int i => .int i
  | _, _, .str x => .str x
  | _, _, .lst h t => .lst (s.seq h) (dpAll_mono s t)
  | _, _, .tup h t => .tup (by
      rcases h with (h | ⟨o, h⟩) | h
      · exact .inl (.inl (s _ _ h))
      · exact .inl (.inr ⟨o, s _ _ h⟩)
      · exact .inr h) (dpAll_mono s t)
theorem dpAll_mono {K : PySem.W.Frag} {H H' : Hp} (s : Same H H') : ∀ {vs : List V} {ds : List PyData}, DpAll K H vs ds → DpAll K H' vs ds
  | _, _, .nil => .nil
  | _, _, .cons h t => .cons (dp_mono s h) (dpAll_mono s t)
end
def isBoolD : PyData → Bool
  | .bool _ => true
  | _ => false
def isIntD : PyData → Bool
  | .bool _ => true
  | .int _ => true
  | _ => false
def isStrD : PyData → Bool
  | .str _ => true
  | _ => false
def isListD : PyData → Bool
  | .list _ => true
  | _ => false
def isTupD : PyData → Bool
  | .tuple _ => true
  | _ => false
def kNames : List String := ["NoneType", "bool", "int", "str", "list", "tuple", "dict"]
theorem tyN_mem (d : PyData) : tyN d ∈ kNames := by cases d <;> (unfold tyN kNames; simp)
theorem kit_tab {K : PySem.W.Frag} {T : String} {f : String → Bool} (h : (kNames.all fun t => kitB t T == some (f t)) = true) {t : String} (ht : t ∈ kNames) : PySem.W.kitOne K (.type t) (.type T) = some (f t) :=
  kit_ty (beq_iff_eq.mp (List.all_eq_true.mp h t ht))
theorem kit_bool {K : PySem.W.Frag} (d : PyData) : PySem.W.kitOne K (.type (tyN d)) (.type "bool") = some (isBoolD d) := by
  have e := kit_tab (K := K) (T := "bool") (f := fun t => t == "bool") (by decide +kernel) (tyN_mem d)
  rw [e]; cases d <;> rfl
theorem kit_int {K : PySem.W.Frag} (d : PyData) : PySem.W.kitOne K (.type (tyN d)) (.type "int") = some (isIntD d) := by
  have e := kit_tab (K := K) (T := "int") (f := fun t => t == "int" || t == "bool") (by decide +kernel) (tyN_mem d)
  rw [e]; cases d <;> rfl
theorem kit_str {K : PySem.W.Frag} (d : PyData) : PySem.W.kitOne K (.type (tyN d)) (.type "str") = some (isStrD d) := by
  have e := kit_tab (K := K) (T := "str") (f := fun t => t == "str") (by decide +kernel) (tyN_mem d)
  rw [e]; cases d <;> rfl
theorem kit_list {K : PySem.W.Frag} (d : PyData) : PySem.W.kitOne K (.type (tyN d)) (.type "list") = some (isListD d) := by
  have e := kit_tab (K := K) (T := "list") (f := fun t => t == "list") (by decide +kernel) (tyN_mem d)
  rw [e]; cases d <;> rfl
theorem kit_tuple {K : PySem.W.Frag} (d : PyData) : PySem.W.kitOne K (.type (tyN d)) (.type "tuple") = some (isTupD d) := by
  have e := kit_tab (K := K) (T := "tuple") (f := fun t => t == "tuple") (by decide +kernel) (tyN_mem d)
  rw [e]; cases d <;> rfl
theorem isi_of {K : PySem.W.Frag} {H : Hp} {x : V} {d : PyData} {T : String} {b : Bool} {Q : VK} (h : Dp K H x d) (k : PySem.W.kitOne K (.type (tyN d)) (.type T) = some b) (q : Q (.bl b) H) : rIsi K [x, .ty T] H Q :=
  ⟨x, .ty T, _, _, _, rfl, .ty T, dp_ty h, k, q⟩
abbrev sSame : Stmt := top 33
theorem scSame : FnScope ["actual", "expected", "k"] ["actual", "expected"] (defScope sSame) := ⟨rfl, rfl, rfl, by decide +kernel, rfl, by decide +kernel, by decide +kernel⟩
def spSame (K : PySem.W.Frag) (n : Nat) : Sp := fun vs H Q _ => ∃ (x y : V) (d e : PyData), vs = [x, y] ∧ Dp K H x d ∧ Dp K H y e ∧ okE n e ∧ ∀ (b : Bool) H', Same H H' → (b = true ↔ d = e) → Q (.bl b) H'
structure SameT (mg : Str → Option Value) : Prop where
  isinstance : mg "isinstance" = none
  bool : mg "bool" = none
  int : mg "int" = none
  str : mg "str" = none
  list : mg "list" = none
  tuple : mg "tuple" = none
  len : mg "len" = none
  range : mg "range" = none
def SeqF (K : PySem.W.Frag) (H : Hp) (x : V) (xs : List V) : Prop := (∃ a, x = .ref a ∧ SqL K H a xs) ∨ (∃ a, x = .ref a ∧ SqT K H a xs)
theorem SeqF.ix {K : PySem.W.Frag} {H : Hp} {x v : V} {xs : List V} {i : Int} {Q : VK} (s : SeqF K H x xs) (h : atI xs i = some v) (q : Q v H) : rIx K x (.int i) H Q := by
  rcases s with ⟨a, rfl, s⟩ | ⟨a, rfl, s⟩
  · exact .inl ⟨a, xs, i, v, rfl, rfl, s, h, q⟩
  · exact .inr (.inl ⟨a, xs, i, v, rfl, rfl, s, h, q⟩)
theorem SeqF.mono {K : PySem.W.Frag} {H H' : Hp} {x : V} {xs : List V} (m : Same H H') (s : SeqF K H x xs) : SeqF K H' x xs := by
  rcases s with ⟨a, rfl, s⟩ | ⟨a, rfl, (h | ⟨o, h⟩) | h⟩
  · exact .inl ⟨a, rfl, m.seq s⟩
  · exact .inr ⟨a, rfl, .inl (.inl (m _ _ h))⟩
  · exact .inr ⟨a, rfl, .inl (.inr ⟨o, m _ _ h⟩)⟩
  · exact .inr ⟨a, rfl, .inr h⟩
theorem SeqF.len {K : PySem.W.Frag} {H : Hp} {x : V} {xs : List V} (s : SeqF K H x xs) : ∃ p, x = .ref p ∧ (SqL K H p xs ∨ SqT K H p xs) := by
  rcases s with ⟨a, rfl, s⟩ | ⟨a, rfl, s⟩
  · exact ⟨a, rfl, .inl s⟩
  · exact ⟨a, rfl, .inr s⟩
section
variable {P : Program} {w : World} {K : PySem.W.Frag} {mg : Str → Option Value} {base : Heap}
theorem same0 {f : Addr} {fd : FuncData} : FnOk P w K mg base CX0 0 f fd ["actual", "expected"] (spSame K 0) := by
  have no : ∀ vs H Q E, ¬ spSame K 0 vs H Q E := fun vs H Q E h => by
    obtain ⟨x, y, d, e, _, _, _, h, _⟩ := h
    exact h
  exact ⟨fun vs H Q E h => absurd h (no vs H Q E), fun A outer s H args us vs Q E _ _ _ _ h => absurd h (no vs H Q E)⟩
theorem sameS {n : Nat} {f : Addr} {fd : FuncData} (F : Fun K "_law_same" "_law_same" sSame f fd) (T : SameT mg) (c_law_same : Cal P w K mg base "_law_same" n ["actual", "expected"] (spSame K n)) : FnOk P w K mg base CX0 (n + 1) f fd ["actual", "expected"] (spSame K (n + 1)) := by
  refine F.ok scSame (fun vs H Q E h => ?_) (fun cdv A outer s H vs Q E hr h => ?_)
  · obtain ⟨x, y, d, e, rfl, _⟩ := h
    rfl
  obtain ⟨x, y, d, e, rfl, hx, hy, hn, q⟩ := h
  refine ⟨_, (pss_cons (ps_if (pt_cmpR op_isN (pv 1) pe_non (nomark _)) (pss_one (ps_ret (pe_cmpR op_isN (pv 0) pe_non (nomark _)))) pss_nil)
    (pss_cons (ps_if (pt_val (pe_callB call_isi (by rfl) T.isinstance (by decide +kernel) (pa_cons (pv 1) (pa_cons (pe_bltn (v := .ty "bool") (by rfl) T.bool (by decide +kernel) rfl) pa_nil))))
      (pss_one (ps_ret (pe_and (pe_callB call_isi (by rfl) T.isinstance (by decide +kernel) (pa_cons (pv 0) (pa_cons (pe_bltn (v := .ty "bool") (by rfl) T.bool (by decide +kernel) rfl) pa_nil))) (pe_one (pe_cmpR op_eq (pv 0) (pv 1) (nomark _)))))) pss_nil)
    (pss_cons (ps_if (pt_val (pe_callB call_isi (by rfl) T.isinstance (by decide +kernel) (pa_cons (pv 1) (pa_cons (pe_bltn (v := .ty "int") (by rfl) T.int (by decide +kernel) rfl) pa_nil))))
      (pss_one (ps_ret (pe_and (pe_callB call_isi (by rfl) T.isinstance (by decide +kernel) (pa_cons (pv 0) (pa_cons (pe_bltn (v := .ty "int") (by rfl) T.int (by decide +kernel) rfl) pa_nil))) (pe_and (pe_not (pe_callB call_isi (by rfl) T.isinstance (by decide +kernel) (pa_cons (pv 0) (pa_cons (pe_bltn (v := .ty "bool") (by rfl) T.bool (by decide +kernel) rfl) pa_nil)))) (pe_one (pe_cmpR op_eq (pv 0) (pv 1) (nomark _))))))) pss_nil)
    (pss_cons (ps_if (pt_val (pe_callB call_isi (by rfl) T.isinstance (by decide +kernel) (pa_cons (pv 1) (pa_cons (pe_bltn (v := .ty "str") (by rfl) T.str (by decide +kernel) rfl) pa_nil))))
      (pss_one (ps_ret (pe_and (pe_callB call_isi (by rfl) T.isinstance (by decide +kernel) (pa_cons (pv 0) (pa_cons (pe_bltn (v := .ty "str") (by rfl) T.str (by decide +kernel) rfl) pa_nil))) (pe_one (pe_cmpR op_eq (pv 0) (pv 1) (nomark _)))))) pss_nil)
    (C8.pss_cut (ps_if (PW.pt (pw_and (pt_val (pe_callB call_isi (by rfl) T.isinstance (by decide +kernel) (pa_cons (pv 1) (pa_cons (pe_bltn (v := .ty "list") (by rfl) T.list (by decide +kernel) rfl) pa_nil)))) (pw_and1 (pt_not (pt_val (pe_callB call_isi (by rfl) T.isinstance (by decide +kernel) (pa_cons (pv 0) (pa_cons (pe_bltn (v := .ty "list") (by rfl) T.list (by decide +kernel) rfl) pa_nil))))))))
      (pss_one (ps_ret pe_bl)) pss_nil)
    (C8.pss_cut (ps_if (PW.pt (pw_and (pt_val (pe_callB call_isi (by rfl) T.isinstance (by decide +kernel) (pa_cons (pv 1) (pa_cons (pe_bltn (v := .ty "tuple") (by rfl) T.tuple (by decide +kernel) rfl) pa_nil)))) (pw_and1 (pt_not (pt_val (pe_callB call_isi (by rfl) T.isinstance (by decide +kernel) (pa_cons (pv 0) (pa_cons (pe_bltn (v := .ty "tuple") (by rfl) T.tuple (by decide +kernel) rfl) pa_nil))))))))
      (pss_one (ps_ret pe_bl)) pss_nil)
    (pss_cons (ps_if (pt_cmpR op_ne (pB1 call_len_seq T.len (pv 0)) (pB1 call_len_seq T.len (pv 1)) (nomark _)) (pss_one (ps_ret pe_bl)) pss_nil)
    (pss_cons (ps_for PassesOwn.never rfl (pi_range1 (by rfl) T.range (pa_cons (pB1 call_len_seq T.len (pv 1)) pa_nil)) (pg_name (i := 2) scSame.nd rfl (Or.inl rfl))
      (pss_one (ps_if (pt_not (pt_val (pcall c_law_same hr (pa_cons (pe_ix ix_seq (pv 0) (pv 2) (fun _ _ => rfl)) (pa_cons (pe_ix ix_seq (pv 1) (pv 2) (fun _ _ => rfl)) pa_nil)) (hk := Nat.le_refl _)))) (pss_one (ps_ret pe_bl)) pss_nil)))
    (pss_one (ps_ret pe_bl)))))))))), ?_⟩
  -- if expected is None
  refine ⟨_, rfl, rfl, _, rfl, ?_⟩
  refine ite2 (fun c => ?_) (fun c0 => ?_)
  · have ey : y = .non := of_decide_eq_true c
    subst ey
    cases hy
    refine ⟨_, rfl, rfl, q _ H (Same.refl H) ?_⟩
    cases hx <;> simp
  -- isinstance(expected, bool)
  refine ⟨_, rfl, _, _, _, _, _, rfl, .ty _, dp_ty hy, kit_bool e, _, rfl, ?_⟩
  refine ite2 (fun c => ?_) (fun c1 => ?_)
  · cases hy <;> first | (cases c; done) | skip
    refine ⟨_, rfl, _, _, _, _, _, rfl, .ty _, dp_ty hx, kit_bool d, _, rfl, ?_⟩
    refine ite2 (fun c2 => ?_) (fun c2 => ?_)
    · cases hx <;> first | (cases c2; done) | skip
      refine ⟨_, rfl, _, rfl, rfl, q _ H (Same.refl H) ?_⟩
      rw [decide_eq_true_eq]
      constructor
      · intro h; injection h with h; rw [h]
      · intro h; injection h with h; rw [h]
    · refine q _ H (Same.refl H) ⟨fun z => (nomatch z), fun z => absurd (by rw [z]; rfl) c2⟩
  -- isinstance(expected, int)
  refine ⟨_, rfl, _, _, _, _, _, rfl, .ty _, dp_ty hy, kit_int e, _, rfl, ?_⟩
  refine ite2 (fun c => ?_) (fun c3 => ?_)
  · cases hy <;> first | (cases c; done) | (exact absurd rfl c1) | skip
    refine ⟨_, rfl, _, _, _, _, _, rfl, .ty _, dp_ty hx, kit_int d, _, rfl, ?_⟩
    refine ite2 (fun c2 => ?_) (fun c2 => ?_)
    · refine ⟨_, rfl, _, _, _, _, _, rfl, .ty _, dp_ty hx, kit_bool d, _, rfl, _, rfl, ?_⟩
      refine ite2 (fun c4 => ?_) (fun c4 => ?_)
      · cases hx <;> first | (cases c2; done) | (cases c4; done) | skip
        refine ⟨_, rfl, _, rfl, rfl, q _ H (Same.refl H) ?_⟩
        rw [decide_eq_true_eq]
        constructor
        · intro h; injection h with h; rw [h]
        · intro h; injection h with h; rw [h]
      · refine q _ H (Same.refl H) ⟨fun z => (nomatch z), fun z => absurd (by rw [z]; rfl) c4⟩
    · refine q _ H (Same.refl H) ⟨fun z => (nomatch z), fun z => absurd (by rw [z]; rfl) c2⟩
  -- isinstance(expected, str)
  refine ⟨_, rfl, _, _, _, _, _, rfl, .ty _, dp_ty hy, kit_str e, _, rfl, ?_⟩
  refine ite2 (fun c => ?_) (fun c5 => ?_)
  · cases hy <;> first | (cases c; done) | skip
    refine ⟨_, rfl, _, _, _, _, _, rfl, .ty _, dp_ty hx, kit_str d, _, rfl, ?_⟩
    refine ite2 (fun c2 => ?_) (fun c2 => ?_)
    · cases hx <;> first | (cases c2; done) | skip
      refine ⟨_, rfl, _, rfl, rfl, q _ H (Same.refl H) ?_⟩
      rw [decide_eq_true_eq]
      constructor
      · intro h; injection h with h; rw [h]
      · intro h; injection h with h; rw [h]
    · refine q _ H (Same.refl H) ⟨fun z => (nomatch z), fun z => absurd (by rw [z]; rfl) c2⟩
  -- lists and tuples
  refine ⟨fun σ' H' => σ' = [some x, some y, none] ∧ H' = H ∧ (isListD e = true → isListD d = true), ?_, ?_⟩
  · refine ⟨_, rfl, _, _, _, _, _, rfl, .ty _, dp_ty hy, kit_list e, _, rfl, ?_⟩
    refine ite2 (fun c6 => ?_) (fun c6 => ?_)
    · refine ⟨_, rfl, _, _, _, _, _, rfl, .ty _, dp_ty hx, kit_list d, _, rfl, ?_⟩
      refine ite2 (fun c7 => ?_) (fun c7 => ?_)
      · refine q _ H (Same.refl H) ⟨fun z => (nomatch z), fun z => ?_⟩
        rw [z, c6] at c7
        cases c7
      · refine ⟨rfl, rfl, fun _ => ?_⟩
        cases h : isListD d with
        | true => rfl
        | false => exact absurd (by rw [h]; rfl) c7
    · refine ite2 (fun z => (nomatch z)) (fun _ => ?_)
      exact ⟨rfl, rfl, fun z => absurd z c6⟩
  rintro σ' H' ⟨rfl, rfl, hl⟩
  refine ⟨fun σ' H'' => σ' = [some x, some y, none] ∧ H'' = H' ∧ (isTupD e = true → isTupD d = true), ?_, ?_⟩
  · refine ⟨_, rfl, _, _, _, _, _, rfl, .ty _, dp_ty hy, kit_tuple e, _, rfl, ?_⟩
    refine ite2 (fun c6 => ?_) (fun c6 => ?_)
    · refine ⟨_, rfl, _, _, _, _, _, rfl, .ty _, dp_ty hx, kit_tuple d, _, rfl, ?_⟩
      refine ite2 (fun c7 => ?_) (fun c7 => ?_)
      · refine q _ H' (Same.refl H') ⟨fun z => (nomatch z), fun z => ?_⟩
        rw [z, c6] at c7
        cases c7
      · refine ⟨rfl, rfl, fun _ => ?_⟩
        cases h : isTupD d with
        | true => rfl
        | false => exact absurd (by rw [h]; rfl) c7
    · refine ite2 (fun z => (nomatch z)) (fun _ => ?_)
      exact ⟨rfl, rfl, fun z => absurd z c6⟩
  rintro σ' H'' ⟨rfl, rfl, ht⟩
  obtain ⟨xs, ys, ds, es, sx, sy, ax, ay, hde, hok⟩ : ∃ (xs ys : List V) (ds es : List PyData), SeqF K H'' x xs ∧ SeqF K H'' y ys ∧ DpAll K H'' xs ds ∧ DpAll K H'' ys es ∧ (ds = es ↔ d = e) ∧ okAll n es := by
    cases hy with
    | non => exact absurd (decide_eq_true rfl) c0
    | bl b => exact absurd rfl c1
    | int i => exact absurd rfl c3
    | str z => exact absurd rfl c5
    | lst h1 h2 =>
      have h := hl rfl
      cases hx <;> first | (cases h; done) | skip
      rename_i h3 h4
      exact ⟨_, _, _, _, .inl ⟨_, rfl, h3⟩, .inl ⟨_, rfl, h1⟩, h4, h2, ⟨fun z => by rw [z], fun z => by injection z⟩, hn⟩
    | tup h1 h2 =>
      have h := ht rfl
      cases hx <;> first | (cases h; done) | skip
      rename_i h3 h4
      exact ⟨_, _, _, _, .inr ⟨_, rfl, h3⟩, .inr ⟨_, rfl, h1⟩, h4, h2, ⟨fun z => by rw [z], fun z => by injection z⟩, hn⟩
  have lx := dpAll_length ax
  have ly := dpAll_length ay
  obtain ⟨p1, e1, l1⟩ := sx.len
  obtain ⟨p2, e2, l2⟩ := sy.len
  refine ⟨_, rfl, p1, xs, by rw [e1], l1, _, rfl, p2, ys, by rw [e2], l2, rfl, _, rfl, ?_⟩
  refine ite2 (fun c => ?_) (fun c => ?_)
  · refine q _ H'' (Same.refl H'') ⟨fun z => (nomatch z), fun z => ?_⟩
    have hl2 : xs.length = ys.length := by rw [lx, ly, hde.mpr z]
    rw [hl2, decide_eq_true rfl] at c
    cases c
  have hlen : xs.length = ys.length := by
    by_cases h : xs.length = ys.length
    · exact h
    · refine absurd ?_ c
      have : decide (V.int (xs.length : Int) = V.int (ys.length : Int)) = false := decide_eq_false (fun z => h (by injection z with z; omega))
      rw [this]
      rfl
  have hbig := hok.1
  refine ⟨_, rfl, p2, ys, by rw [e2], l2, _, rfl, by omega, by omega, ?_⟩
  have en : ((ys.length : Int)).toNat = es.length := by omega
  rw [en]
  refine for_range (lo := 0) (n := es.length) (fun i σ H' => ∃ k : Option V, σ = [some x, some y, k] ∧ Same H'' H' ∧ ∀ j, j < i → ds[j]? = es[j]?) ⟨none, rfl, Same.refl _, fun j h => absurd h (by omega)⟩ ?_ ?_
  · rintro i σ H1 hi ⟨k, rfl, s1, hall⟩
    have hid : ds[i]? = some (ds[i]'(by omega)) := List.getElem?_eq_getElem (by omega)
    have hie : es[i]? = some es[i] := List.getElem?_eq_getElem hi
    obtain ⟨v1, hv1, hd1⟩ := dpAll_get ax hid
    obtain ⟨v2, hv2, hd2⟩ := dpAll_get ay hie
    have a1 : atI xs (0 + (i : Int)) = some v1 := by rw [Int.zero_add]; exact atI_nat hv1
    have a2 : atI ys (0 + (i : Int)) = some v2 := by rw [Int.zero_add]; exact atI_nat hv2
    refine ⟨_, rfl, _, rfl, (sx.mono s1).ix a1 ⟨_, rfl, _, rfl, (sy.mono s1).ix a2 ⟨v1, v2, ds[i], es[i], rfl, dp_mono s1 hd1, dp_mono s1 hd2, hok.2 _ (List.getElem_mem hi), fun b H2 s2 hb => ⟨_, rfl, ?_⟩⟩⟩⟩
    refine ite2 (fun c => ?_) (fun c => ?_)
    · refine q _ H2 (s1.trans s2) ⟨fun z => (nomatch z), fun z => ?_⟩
      have : b = true := hb.mpr (by
        have hz := hde.mpr z
        have : ds[i]? = es[i]? := by rw [hz]
        rw [hid, hie] at this
        exact Option.some.inj this)
      rw [this] at c
      cases c
    · have hbt : b = true := by
        cases b with
        | true => rfl
        | false => exact absurd rfl c
      refine ⟨_, rfl, s1.trans s2, fun j hj => ?_⟩
      by_cases e : j = i
      · rw [e, hid, hie, hb.mp hbt]
      · exact hall j (by omega)
  · rintro σ H1 ⟨k, rfl, s1, hall⟩
    refine q true H1 s1 ⟨fun _ => hde.mp (List.ext_getElem? fun j => ?_), fun _ => rfl⟩
    by_cases hj : j < es.length
    · exact hall j hj
    · rw [List.getElem?_eq_none (by omega), List.getElem?_eq_none (by omega)]
end
end W8

set_option Elab.async false
set_option linter.all false
set_option maxRecDepth 100000
set_option maxHeartbeats 4000000
namespace W8
open PySem L2
abbrev sWord : Stmt := top 35
theorem scWord : FnScope ["state", "letters", "most", "word", "k"] ["state", "letters", "most"] (defScope sWord) := ⟨rfl, rfl, rfl, by decide +kernel, rfl, by decide +kernel, by decide +kernel⟩
def spWord (K : PySem.W.Frag) : Sp := fun vs H Q _ => ∃ (a : Addr) (al : List Nat) (m : Int), vs = [.ref a, .str (S al), .int m] ∧ al ≠ [] ∧ al.length ≤ 100 ∧ 0 ≤ m ∧ m ≤ 900 ∧ ∃ p, StOk K H a p ∧ ∀ u H', (u.length : Int) ≤ m → (∀ c ∈ u, c ∈ al) → But a H H' → StOk K H' a p → Q (.str (S u)) H'
section
variable {P : Program} {w : World} {K : PySem.W.Frag} {mg : Str → Option Value} {base : Heap}
theorem ok_word {f : Addr} {fd : FuncData} (F : Fun K "_law_word" "_law_word" sWord f fd) (tr : mg "range" = none) (tl : mg "len" = none) (c_law_draw : Cal P w K mg base "_law_draw" 1 ["state", "many"] (spDraw K)) : FnOk P w K mg base CX0 2 f fd ["state", "letters", "most"] (spWord K) := by
  refine F.ok scWord (fun vs H Q E h => ?_) (fun cdv A outer s H vs Q E hr h => ?_)
  · obtain ⟨a, al, m, rfl, _⟩ := h
    rfl
  obtain ⟨a, al, m, rfl, hne, hal, m0, m9, p, S0, q⟩ := h
  have hal1 : 1 ≤ al.length := List.length_pos_iff.mpr hne
  refine ⟨_, (pss_cons (ps_set (i := 3) scWord.nd rfl (Or.inl rfl) pe_str)
    (pss_cons (ps_for PassesOwn.never rfl (pi_range1 (by rfl) tr (pa_cons (pcall c_law_draw hr (pa_cons (pv 0) (pa_cons (pe_op op_add (pv 2) pe_int) pa_nil))) pa_nil)) (pg_name (i := 4) scWord.nd rfl (Or.inl rfl))
      (pss_one (ps_set (i := 3) scWord.nd rfl (Or.inl rfl) (pe_op op_add_str (pv 3) (pixS (pv 1) (pcall c_law_draw hr (pa_cons (pv 0) (pa_cons (pB1 call_len_str tl (pv 1)) pa_nil))))))))
    (pss_one (ps_ret (pv 3))))), ?_⟩
  refine ⟨_, rfl, _, rfl, _, _, rfl, rfl, a, m + 1, rfl, by omega, by omega, _, S0, fun n H1 n0 n1 B1 S1 => ?_⟩
  refine ⟨_, rfl, by omega, by omega, ?_⟩
  refine for_range (lo := 0) (n := n.toNat) (fun i σ H' => ∃ (u : List Nat) (k : Option V), σ = [some (.ref a), some (.str (S al)), some (.int m), some (.str (S u)), k] ∧ u.length = i ∧ (∀ c ∈ u, c ∈ al) ∧ But a H H' ∧ StOk K H' a p) ⟨[], none, rfl, rfl, (fun c h => nomatch h), B1, S1⟩ ?_ ?_
  · rintro i σ H2 hi ⟨u, k, rfl, hu, hm, B2, S2⟩
    refine ⟨_, rfl, _, rfl, _, rfl, _, rfl, _, rfl, by rw [S_len]; exact sz (by omega), a, (al.length : Int), rfl, by omega, by omega, _, S2, fun r H3 r0 r1 B3 S3 => ?_⟩
    obtain ⟨c, hc, _, hat⟩ := at_S (w := al) r0 r1
    refine ⟨_, _, c, rfl, rfl, by rw [S_len]; exact sz (by omega), hat, _, _, rfl, rfl, by rw [S_len]; exact sz (by show u.length + 1 ≤ 100000; omega), ?_⟩
    refine ⟨u ++ [c], _, by rw [S_one, S_app] <;> rfl, by rw [List.length_append, hu] <;> rfl, fun d hd => ?_, B2.trans B3, S3⟩
    rcases List.mem_append.mp hd with e | e
    · exact hm d e
    · rw [List.mem_singleton.mp e]
      exact hc
  · rintro σ H2 ⟨u, k, rfl, hu, hm, B2, S2⟩
    exact ⟨_, rfl, q u H2 (by omega) hm B2 S2⟩
end
end W8

set_option Elab.async false
set_option linter.all false
set_option maxRecDepth 100000
set_option maxHeartbeats 4000000
namespace W8
open PySem L2 GM
theorem StOk.same {K : PySem.W.Frag} {H H' : Hp} {a p : Addr} (s : Same H H') (h : StOk K H a p) : StOk K H' a p := by
  obtain ⟨cs, i, v, l, m, x⟩ := h
  exact ⟨cs, i, v, l, m, s _ _ x.h, s _ _ x.c, x.ne, x.b, x.n, x.i0, x.v0, x.m0⟩
theorem But.same {a : Addr} {H H1 H2 : Hp} (b : But a H H1) (s : Same H1 H2) : But a H H2 := b.trans (But.of s)
theorem foldl_rep (c : Array Nat) : ∀ (n : Nat) (x : Array Nat), (List.replicate n c).foldl (· ++ ·) x = x ++ (rep c.toList n).toArray
  | 0, x => by simp [rep]
  | n + 1, x => by
    rw [List.replicate_succ, List.foldl_cons, foldl_rep c n]
    show _ = x ++ (c.toList ++ rep c.toList n).toArray
    rw [Array.append_assoc]
    congr 1
    rw [← List.append_toArray]
theorem rep_one (v : List Nat) : rep v 1 = v := by show v ++ [] = v; rw [List.append_nil]
/-- a text so many times -/
theorem mul_S (v : List Nat) (n : Nat) : Txt.mul (S v) (n : Int) = S (rep v n) := by
  unfold Txt.mul
  by_cases h : (n : Int) < 1
  · have e : n = 0 := by omega
    subst e
    rw [if_pos h]
    rfl
  rw [if_neg h]
  by_cases h2 : (((n : Int) == 1) || (S v).length == 0) = true
  · rw [if_pos h2]
    rcases Bool.or_eq_true _ _ ▸ h2 with e | e
    · have : n = 1 := by have := beq_iff_eq.mp e; omega
      subst this
      rw [rep_one]
    · have e2 : v.length = 0 := by rw [← S_len]; exact beq_iff_eq.mp e
      have e3 : v = [] := List.length_eq_zero_iff.mp e2
      subst e3
      rw [rep_nil]
  · rw [if_neg h2, Int.toNat_natCast, foldl_rep]
    show (⟨#[] ++ (rep v n).toArray⟩ : Str) = S (rep v n)
    rw [Array.empty_append]
    rfl
theorem rep_mem {v : List Nat} {c : Nat} : ∀ {n : Nat}, c ∈ rep v n → c ∈ v
  | 0, h => by cases h
  | n + 1, h => by
    rcases List.mem_append.mp (show c ∈ v ++ rep v n from h) with e | e
    · exact e
    · exact rep_mem e
theorem pow_int {r : Nat} (h : r ≤ 3) : ((1 : Int) * 2 ^ ((r : Int)).toNat - 1) = ((2 ^ r - 1 : Nat) : Int) := by
  rcases r with _ | _ | _ | _ | r <;> first | rfl | omega
theorem pow_le {r : Nat} (h : r ≤ 3) : 2 ^ r - 1 ≤ 7 := by
  rcases r with _ | _ | _ | _ | r <;> first | decide | omega
theorem alphOk_mem {al : List Nat} {u v : List Nat} (h1 : ∀ c ∈ u, c ∈ al) (h2 : ∀ c ∈ v, c ∈ al) : ∀ c ∈ u ++ v, c ∈ al := fun c h => (List.mem_append.mp h).elim (h1 c) (h2 c)
theorem addS {u v : List Nat} {H : Hp} {Q : VK} (h : u.length + v.length ≤ 100000) (q : Q (.str (S (u ++ v))) H) : ∃ i j, V.str (S u) = .str i ∧ V.str (S v) = .str j ∧ i.length + j.length ≤ sizeLine ∧ Q (.str (i ++ j)) H :=
  ⟨S u, S v, rfl, rfl, sz h, by rw [S_app]; exact q⟩
theorem mulS {u : List Nat} {n : Nat} {k : Int} {H : Hp} {Q : VK} (e : k = (n : Int)) (h : u.length ≤ 1000) (hn : n ≤ 1000) (q : Q (.str (S (rep u n))) H) : rMulS (.str (S u)) (.int k) H Q :=
  ⟨S u, k, rfl, rfl, h, by omega, by omega, by rw [e, mul_S]; exact q⟩
/-- w[:k] -/
theorem cut_to (w : List Nat) (k : Nat) : cutS (S w) none (some (k : Int)) = S (w.take k) := by
  unfold cutS
  rw [HT.sIx_none, HT.sIx_nat, List.drop_zero, Nat.sub_zero]
  show S (w.take (min k w.length)) = S (w.take k)
  congr 1
  by_cases h : k ≤ w.length
  · rw [Nat.min_eq_left h]
  · rw [Nat.min_eq_right (by omega), List.take_of_length_le (Nat.le_refl _), List.take_of_length_le (by omega)]
/-- [x, y] compared with [b, b'] -/
theorem dp_two {K : PySem.W.Frag} {H : Hp} {l : Addr} {a b : Bool} (h : H l = some (.lst [.bl a, .bl b])) : Dp K H (.ref l) (.list [.bool a, .bool b]) := .lst (SqL.of h) (.cons (.bl a) (.cons (.bl b) .nil))
end W8

set_option Elab.async false
set_option linter.all false
set_option maxRecDepth 100000
set_option maxHeartbeats 4000000
namespace W8
open PySem L2 NK GM
/-- a def of a class that may be called -/
structure MCal (P : Program) (w : World) (K : PySem.W.Frag) (mg : Str → Option Value) (base : Heap) (C : Addr) (m : Str) (k : Nat) (ps : List Str) (sp : Sp) : Prop where
  ex : ∃ (f : Addr) (fd : FuncData), FnOk P w K mg base CX0 k f fd ps sp ∧ Meth K C m f ∧ Binds K fd ps []
/-- the word of a side -/
def wd (u v : List Nat) (s : Nat) : List Nat := if s = 0 then u else v
/-- a pair, the place of the first word first -/
def mkp (s p q : Nat) : Nat × Nat := if s = 0 then (p, q) else (q, p)
theorem wd_at (u v : List Nat) {s : Nat} (h : s ≤ 1) : atI [V.str (S u), V.str (S v)] (s : Int) = some (.str (S (wd u v s))) := by
  rcases s with _ | _ | s
  · rfl
  · rfl
  · omega
theorem wd_at1 (u v : List Nat) {s : Nat} (h : s ≤ 1) : atI [V.str (S u), V.str (S v)] (1 - (s : Int)) = some (.str (S (wd u v (1 - s)))) := by
  rcases s with _ | _ | s
  · rfl
  · rfl
  · omega
theorem wd_len {u v : List Nat} {n s : Nat} (hu : u.length ≤ n) (hv : v.length ≤ n) : (wd u v s).length ≤ n := by
  unfold wd
  split <;> assumption
abbrev sCheck_place : Stmt := top 25
theorem scCheck_place : FnScope ["place", "word"] ["place", "word"] (defScope sCheck_place) := ⟨rfl, rfl, rfl, by decide +kernel, rfl, by decide +kernel, by decide +kernel⟩
def spCheck_place : Sp := fun vs H Q _ => ∃ (x : Nat) (z : List Nat), vs = [.int (x : Int), .str (S z)] ∧ x ≤ z.length ∧ z.length ≤ 1000 ∧ Q .non H
abbrev sChoice : Stmt := inClass (top 29) 3
theorem scChoice : FnScope ["self", "side", "place"] ["self", "side", "place"] (defScope sChoice) := ⟨rfl, rfl, rfl, by decide +kernel, rfl, by decide +kernel, by decide +kernel⟩
def spChoice (C : Addr) : Sp := fun vs H Q _ => ∃ (p dx wt pt : Addr) (al u v : List Nat) (r s x : Nat) (prs : Prs) (qs : List Addr), vs = [.ref p, .int (s : Int), .int (x : Int)] ∧ GameSt H p C dx wt pt al u v r prs qs ∧ u.length ≤ 60 ∧ v.length ≤ 60 ∧ s ≤ 1 ∧ prs.length < r ∧ x ≤ (wd u v s).length ∧
  ∀ H', Same H H' → Q .non H'
abbrev sPlay : Stmt := inClass (top 29) 4
theorem scPlay : FnScope ["self", "side", "place", "answer"] ["self", "side", "place", "answer"] (defScope sPlay) := ⟨rfl, rfl, rfl, by decide +kernel, rfl, by decide +kernel, by decide +kernel⟩
def spPlay (C : Addr) : Sp := fun vs H Q _ => ∃ (p dx wt pt : Addr) (al u v : List Nat) (r s x y : Nat) (prs : Prs) (qs : List Addr), vs = [.ref p, .int (s : Int), .int (x : Int), .int (y : Int)] ∧ GameSt H p C dx wt pt al u v r prs qs ∧ u.length ≤ 60 ∧ v.length ≤ 60 ∧ r ≤ 3 ∧ s ≤ 1 ∧ prs.length < r ∧
  x ≤ (wd u v s).length ∧ y ≤ (wd u v (1 - s)).length ∧ ∀ H' pt' qs', But p H H' → GameSt H' p C dx wt pt' al u v r (prs ++ [mkp s x y]) qs' → Q .non H'
abbrev sBack : Stmt := inClass (top 29) 5
theorem scBack : FnScope ["self"] ["self"] (defScope sBack) := ⟨rfl, rfl, rfl, by decide +kernel, rfl, by decide +kernel, by decide +kernel⟩
def spBack (C : Addr) : Sp := fun vs H Q _ => ∃ (p dx wt pt : Addr) (al u v : List Nat) (r : Nat) (prs : Prs) (qs : List Addr), vs = [.ref p] ∧ GameSt H p C dx wt pt al u v r prs qs ∧
  (prs = [] → Q (.bl false) H) ∧ (prs ≠ [] → ∀ H' pt' qs', But p H H' → GameSt H' p C dx wt pt' al u v r prs.dropLast qs' → Q (.bl true) H')
theorem int_ne' {a b : Int} (h : a ≠ b) : decide (V.int a = V.int b) = false := decide_eq_false fun e => h (by injection e)
theorem paired_snoc {α β : Type} {F : α → β → Prop} : ∀ {xs : List α} {ys : List β} {x : α} {y : β}, Paired F xs ys → F x y → Paired F (xs ++ [x]) (ys ++ [y])
  | [], [], _, _, .nil, h => .cons h .nil
  | _ :: _, _ :: _, _, _, .cons g t, h => .cons g (paired_snoc t h)
theorem paired_init {α β : Type} {F : α → β → Prop} : ∀ {xs : List α} {ys : List β}, Paired F xs ys → Paired F xs.dropLast ys.dropLast
  | [], [], .nil => .nil
  | [_], [_], .cons _ .nil => .nil
  | _ :: _ :: _, _ :: _ :: _, .cons g (.cons h t) => .cons g (paired_init (.cons h t))
theorem putF_pairs (l w r p q : V) : putF "pairs" q (gf l w r p) = gf l w r q := by
  show (if ("letters" : Str) = "pairs" then _ else _ :: (if ("words" : Str) = "pairs" then _ else _ :: (if ("rounds" : Str) = "pairs" then _ else _ :: (if ("pairs" : Str) = "pairs" then _ else _)))) = _
  rw [if_neg (by decide +kernel), if_neg (by decide +kernel), if_neg (by decide +kernel), if_pos rfl]
  rfl
theorem cut_last (xs : List V) (h : xs ≠ []) : cutV xs none (some (-1)) = xs.dropLast := by
  have hl := List.length_pos_iff.mpr h
  unfold cutV
  rw [HT.sIx_none, List.drop_zero, Nat.sub_zero]
  have e : HT.sIx xs.length xs.length (some (-1)) = xs.length - 1 := by
    unfold HT.sIx
    simp
    omega
  rw [e, List.dropLast_eq_take]
theorem catA2 {K : PySem.W.Frag} {H : Hp} {a t : Addr} {xs : List V} {y : V} {Q : VK} (ha : H a = some (.tup xs)) (ht : H t = some (.tup [y])) (hn : xs.length ≤ 1000) (q : ∀ b H', Same H H' → H' b = some (.tup (xs ++ [y])) → Q (.ref b) H') : rCatA K (.ref a) (.ref t) H Q := by
  refine ⟨a, t, xs, [y], rfl, rfl, SqT.of ha, SqT.of ht, sz (by show xs.length + 1 ≤ 100000; omega), fun e => ?_, fun _ e => (nomatch e), fun _ _ p hp => ?_⟩
  · subst e
    exact q t H (Same.refl H) ht
  · exact q p _ (same_new hp _) upd_same
section
variable {P : Program} {w : World} {K : PySem.W.Frag} {mg : Str → Option Value} {base : Heap}
theorem ok_check_place {f : Addr} {fd : FuncData} (F : Fun K "check_place" "check_place" sCheck_place f fd) (tl : mg "len" = none) : FnOk P w K mg base CX0 1 f fd ["place", "word"] spCheck_place := by
  refine F.ok scCheck_place (fun vs H Q E h => ?_) (fun cdv A outer s H vs Q E hr h => ?_)
  · obtain ⟨x, z, rfl, _⟩ := h
    rfl
  obtain ⟨x, z, rfl, hx, hz, q⟩ := h
  refine ⟨_, (pss_one (ps_if (pt_not (pt_chain op_le op_le pe_int (pv 0) (pB1 call_len_str tl (pv 1))))
      (pss_one ps_never)
      pss_nil)), ?_⟩
  refine ⟨_, rfl, _, _, rfl, rfl, _, rfl, ?_⟩
  refine ite2 (fun _ => ?_) (fun e => absurd (decide_eq_true (by omega)) e)
  refine ⟨_, rfl, _, rfl, sz (by rw [S_len]; omega), _, _, rfl, rfl, _, rfl, ?_⟩
  have e : decide ((x : Int) ≤ ((S z).length : Int)) = true := decide_eq_true (by rw [S_len]; omega)
  rw [e]
  exact ite2 (fun z => (nomatch z)) (fun _ => q)
theorem ok_choice {f C : Addr} {fd : FuncData} (F : Fun K "check_choice" "Game.check_choice" sChoice f fd) (T : GameT K mg C) (tl : mg "len" = none) (cp : Cal P w K mg base "check_place" 1 ["place", "word"] spCheck_place) : FnOk P w K mg base CX0 2 f fd ["self", "side", "place"] (spChoice C) := by
  refine F.ok scChoice (fun vs H Q E h => ?_) (fun cdv A outer s H vs Q E hr h => ?_)
  · obtain ⟨p, dx, wt, pt, al, u, v, r, s, x, prs, qs, rfl, _⟩ := h
    rfl
  obtain ⟨p, dx, wt, pt, al, u, v, r, s, x, prs, qs, rfl, G, hu, hv, hs, hp, hx, q⟩ := h
  have hql : qs.length = prs.length := Paired.length G.q
  refine ⟨_, (pss_cons (ps_if (pt_cmpR op_eq (pB1 call_len_seq tl (pe_fld (pv 0) rfl)) (pe_fld (pv 0) rfl) (nomark _))
      (pss_one ps_never)
      pss_nil)
    (pss_cons (ps_if (pt_cmpR op_notIn_seq (pv 1) (pe_tup (pa_cons pe_int (pa_cons pe_int pa_nil))) rfl)
      (pss_one ps_never)
      pss_nil)
    (pss_one (ps_expr (pcall cp hr (pa_cons (pv 2) (pa_cons (pixT (pe_fld (pv 0) rfl) (pv 1)) pa_nil))))))), ?_⟩
  refine ⟨_, rfl, p, C, dx, _, _, rfl, G.o, T.cl, T.nP, gf_pairs _ _ _ _, pt, _, rfl, .inr (SqT.of G.t), _, rfl, p, C, dx, _, _, rfl, G.o, T.cl, T.nR, gf_rounds _ _ _ _, rfl, _, rfl, ?_⟩
  have e0 : decide (V.int (((qs.map V.ref).length : Nat) : Int) = V.int (r : Int)) = false := int_ne' (by rw [List.length_map]; omega)
  rw [e0]
  refine ite2 (fun z => (nomatch z)) (fun _ => ?_)
  refine ⟨_, rfl, by show 2 ≤ sizeLine; decide, fun t ht => ?_⟩
  have s1 := same_new ht (.tup [.int 0, .int 1])
  refine ⟨t, _, rfl, .inr (SqT.of upd_same), rfl, rfl, _, rfl, ?_⟩
  have e1 : (if true = true then !inV (.int (s : Int)) [.int 0, .int 1] else inV (.int (s : Int)) [.int 0, .int 1]) = false := by
    rcases s with _ | _ | s
    · rfl
    · rfl
    · omega
  rw [e1]
  refine ite2 (fun z => (nomatch z)) (fun _ => ?_)
  have G1 := G.mono s1
  refine ⟨_, rfl, _, rfl, p, C, dx, _, _, rfl, G1.o, T.cl, T.nW, gf_words _ _ _ _, _, rfl, wt, _, _, _, rfl, rfl, SqT.of G1.w, wd_at u v hs, x, wd u v s, rfl, hx, Nat.le_trans (wd_len hu hv) (by decide), q _ s1⟩
theorem ok_play {f C : Addr} {fd : FuncData} (F : Fun K "play" "Game.play" sPlay f fd) (T : GameT K mg C) (cp : Cal P w K mg base "check_place" 1 ["place", "word"] spCheck_place) (cc : MCal P w K mg base C "check_choice" 2 ["self", "side", "place"] (spChoice C)) : FnOk P w K mg base CX0 3 f fd ["self", "side", "place", "answer"] (spPlay C) := by
  refine F.ok scPlay (fun vs H Q E h => ?_) (fun cdv A outer s H vs Q E hr h => ?_)
  · obtain ⟨p, dx, wt, pt, al, u, v, r, s, x, y, prs, qs, rfl, _⟩ := h
    rfl
  obtain ⟨p, dx, wt, pt, al, u, v, r, s, x, y, prs, qs, rfl, G, hu, hv, hr3, hs, hp, hx, hy, q⟩ := h
  have hql : qs.length = prs.length := Paired.length G.q
  obtain ⟨f1, fd1, G1, m1, b1⟩ := cc.ex
  refine ⟨_, (pss_cons (ps_expr (pe_meth (pv 0) T.cl m1 G1 (hr.mono (by decide)) b1 .nil pass0 (pa_cons (pv 1) (pa_cons (pv 2) pa_nil))))
    (pss_cons (ps_expr (pcall cp hr (pa_cons (pv 3) (pa_cons (pixT (pe_fld (pv 0) rfl) (pe_op op_sub pe_int (pv 1))) pa_nil))))
    (pss_one (ps_if (pt_cmpR op_eq (pv 1) pe_int (nomark _))
      (pss_one (ps_fld (pv 0) (pe_op (r := rCatA K) op_catA (pe_fld (pv 0) rfl) (pe_tup (pa_cons (pe_tup (pa_cons (pv 2) (pa_cons (pv 3) pa_nil))) pa_nil))) rfl))
      (pss_one (ps_fld (pv 0) (pe_op (r := rCatA K) op_catA (pe_fld (pv 0) rfl) (pe_tup (pa_cons (pe_tup (pa_cons (pv 3) (pa_cons (pv 2) pa_nil))) pa_nil))) rfl)))))), ?_⟩
  refine ⟨_, rfl, p, dx, _, rfl, G.o, gf_no _ _ _ _ (by decide +kernel), _, rfl, _, rfl, p, dx, wt, pt, al, u, v, r, s, x, prs, qs, rfl, G, hu, hv, hs, hp, hx, fun H1 s1 => ?_⟩
  have G1 := G.mono s1
  refine ⟨_, rfl, _, rfl, p, C, dx, _, _, rfl, G1.o, T.cl, T.nW, gf_words _ _ _ _, _, rfl, _, _, rfl, rfl, wt, _, _, _, rfl, rfl, SqT.of G1.w, wd_at1 u v hs, y, wd u v (1 - s), rfl, hy, Nat.le_trans (wd_len hu hv) (by decide), ?_⟩
  have fin : ∀ (a b : Nat) (tp tq : Addr) (Q2 : VK), H1 tp = none → upd H1 tp (.tup [natV a, natV b]) tq = none → (a, b) = mkp s x y →
      (∀ c H4, H4 p = some (.ins C dx (gf (.str (S al)) (.ref wt) (.int (r : Int)) (.ref pt))) → (∀ Q3 : Prop, (∀ H' pt' qs', H' = upd H4 p (.ins C dx (gf (.str (S al)) (.ref wt) (.int (r : Int)) (.ref c))) → But p H H' → GameSt H' p C dx wt pt' al u v r (prs ++ [mkp s x y]) qs' → Q3) → Q3) → Q2 (.ref c) H4) →
      rCatA K (.ref pt) (.ref tq) (upd (upd H1 tp (.tup [natV a, natV b])) tq (.tup [.ref tp])) Q2 := by
    intro a b tp tq Q2 htp htq hab k
    have s2 := same_new htp (.tup [natV a, natV b])
    have s3 := same_new htq (.tup [.ref tp])
    have G3 := G1.mono (s2.trans s3)
    have nqp : tp ≠ tq := ne_of_none upd_same htq
    have htp3 : (upd (upd H1 tp (.tup [natV a, natV b])) tq (.tup [.ref tp])) tp = some (.tup [natV a, natV b]) := s3 _ _ upd_same
    refine catA2 G3.t upd_same (by rw [List.length_map]; omega) fun c H4 s4 hc => ?_
    have G4 := G3.mono s4
    have htp4 := s4 _ _ htp3
    refine k c H4 G4.o fun Q3 kk => ?_
    have ncp : c ≠ p := ne_of hc G4.o (by intro z; cases z)
    refine kk _ c (qs ++ [tp]) rfl (fun b o nb ho => by rw [upd_ne nb]; exact s4 _ _ (s3 _ _ (s2 _ _ (s1 _ _ ho)))) ⟨upd_same, ?_, ?_, ?_⟩
    · rw [upd_ne (ne_of G4.w G4.o (by intro z; cases z))]
      exact G4.w
    · rw [upd_ne ncp, List.map_append]
      exact hc
    · refine paired_snoc (Paired.mapP G4.q fun a b h => ?_) ?_
      · rw [upd_ne (ne_of h G4.o (by intro z; cases z))]
        exact h
      · rw [upd_ne (ne_of htp4 G4.o (by intro z; cases z)), ← hab]
        exact htp4
  refine ⟨_, rfl, rfl, _, rfl, ?_⟩
  refine ite2 (fun e => ?_) (fun e => ?_)
  · have s0 : s = 0 := by have := int_eq e; omega
    refine ⟨_, rfl, p, C, dx, _, _, rfl, G1.o, T.cl, T.nP, gf_pairs _ _ _ _, _, rfl, _, rfl, by show 2 ≤ sizeLine; decide, fun tp htp => ⟨by show 1 ≤ sizeLine; decide, fun tq htq => ?_⟩⟩
    refine fin x y tp tq _ htp htq (by unfold mkp; rw [if_pos s0]) fun c H4 h4 kk => ?_
    refine ⟨_, rfl, p, C, dx, _, rfl, h4, T.cl, T.nP, by show 4 < 1000; decide, ?_⟩
    rw [putF_pairs]
    exact kk _ fun H' pt' qs' e b g => e ▸ q H' pt' qs' b g
  · have s0 : s ≠ 0 := fun z => e (decide_eq_true (by rw [z]; rfl))
    refine ⟨_, rfl, p, C, dx, _, _, rfl, G1.o, T.cl, T.nP, gf_pairs _ _ _ _, _, rfl, _, rfl, by show 2 ≤ sizeLine; decide, fun tp htp => ⟨by show 1 ≤ sizeLine; decide, fun tq htq => ?_⟩⟩
    refine fin y x tp tq _ htp htq (by unfold mkp; rw [if_neg s0]) fun c H4 h4 kk => ?_
    refine ⟨_, rfl, p, C, dx, _, rfl, h4, T.cl, T.nP, by show 4 < 1000; decide, ?_⟩
    rw [putF_pairs]
    exact kk _ fun H' pt' qs' e b g => e ▸ q H' pt' qs' b g
theorem ok_back {f C : Addr} {fd : FuncData} (F : Fun K "back" "Game.back" sBack f fd) (T : GameT K mg C) (tl : mg "len" = none) : FnOk P w K mg base CX0 1 f fd ["self"] (spBack C) := by
  refine F.ok scBack (fun vs H Q E h => ?_) (fun cdv A outer s H vs Q E hr h => ?_)
  · obtain ⟨p, dx, wt, pt, al, u, v, r, prs, qs, rfl, _⟩ := h
    rfl
  obtain ⟨p, dx, wt, pt, al, u, v, r, prs, qs, rfl, G, q0, q1⟩ := h
  have hql : qs.length = prs.length := Paired.length G.q
  refine ⟨_, (pss_cons (ps_if (pt_cmpR op_eq (pB1 call_len_seq tl (pe_fld (pv 0) rfl)) pe_int (nomark _))
      (pss_one (ps_ret pe_bl))
      pss_nil)
    (pss_cons (ps_fld (pv 0) (pe_slice sl_tup (pe_fld (pv 0) rfl) po_none (po_some (pe_un un_neg pe_int))) rfl)
    (pss_one (ps_ret pe_bl)))), ?_⟩
  refine ⟨_, rfl, p, C, dx, _, _, rfl, G.o, T.cl, T.nP, gf_pairs _ _ _ _, pt, _, rfl, .inr (SqT.of G.t), rfl, _, rfl, ?_⟩
  refine ite2 (fun e => ?_) (fun e => ?_)
  · have e1 := int_eq e
    rw [List.length_map] at e1
    exact q0 (List.length_eq_zero_iff.mp (by omega))
  · have hne : prs ≠ [] := fun z => e (decide_eq_true (by rw [List.length_map, hql, z]; rfl))
    have hqne : qs.map V.ref ≠ [] := fun z => hne (List.length_eq_zero_iff.mp (by rw [← hql, ← List.length_map (f := V.ref), z]; rfl))
    have hl := List.length_pos_iff.mpr hqne
    refine ⟨_, rfl, p, C, dx, _, _, rfl, G.o, T.cl, T.nP, gf_pairs _ _ _ _, _, rfl, _, rfl, pt, _, rfl, SqT.of G.t, ?_, fun c hc => ?_⟩
    · rintro ⟨_, z⟩
      unfold HT.sIx at z
      simp at z
      rw [List.length_map] at hl
      omega
    have ecut : cutV (qs.map V.ref) none (some (-1)) = qs.dropLast.map V.ref := by rw [cut_last _ hqne, List.map_dropLast]
    have s1 := same_new hc (.tup (cutV (qs.map V.ref) none (some (-1))))
    have G1 := G.mono s1
    refine ⟨_, rfl, p, C, dx, _, rfl, G1.o, T.cl, T.nP, by show 4 < 1000; decide, ?_⟩
    rw [putF_pairs]
    have npc : c ≠ p := ne_of upd_same G1.o (by intro z; cases z)
    refine q1 hne _ c qs.dropLast (fun b o nb ho => by rw [upd_ne nb]; exact s1 _ _ ho) ⟨upd_same, ?_, ?_, ?_⟩
    · rw [upd_ne (ne_of G1.w G1.o (by intro z; cases z))]
      exact G1.w
    · rw [upd_ne npc, upd_same, ecut]
    · refine Paired.mapP (paired_init G1.q) fun a b h => ?_
      rw [upd_ne (ne_of h G1.o (by intro z; cases z))]
      exact h
end
end W8

set_option Elab.async false
set_option linter.all false
set_option maxRecDepth 100000
set_option maxHeartbeats 4000000
namespace W8
open PySem L2 NK GM
abbrev sKinds : Stmt := inClass (top 29) 7
theorem scKinds : FnScope ["self", "side", "numbers", "left", "chosen", "word", "place", "pair"] ["self", "side", "numbers"] (defScope sKinds) := ⟨rfl, rfl, rfl, by decide +kernel, rfl, by decide +kernel, by decide +kernel⟩
def KindsOk (D : List (List Itm)) (n : Nat) (u v : List Nat) (prs : Prs) (s : Nat) (ks : List Nat) : Prop := ks.length = (wd u v s).length + 1 ∧ ∀ a k, ks[a]? = some k → Num D n (wd u v s) (prs.map (sel s) ++ [a]) k
theorem KindsOk.mono {D D' : List (List Itm)} (h : ∃ t, D' = D ++ t) {n : Nat} {u v : List Nat} {prs : Prs} {s : Nat} {ks : List Nat} (g : KindsOk D n u v prs s ks) : KindsOk D' n u v prs s ks := ⟨g.1, fun a k e => (g.2 a k e).mono h⟩
def spKinds (P : Program) (w : World) (C : Addr) : Sp := fun vs H Q _ => ∃ (p dx wt pt : Addr) (al u v : List Nat) (r s n : Nat) (prs : Prs) (qs : List Addr) (d : Addr) (D : List (List Itm)), vs = [.ref p, .int (s : Int), .ref d] ∧ GameSt H p C dx wt pt al u v r prs qs ∧ u.length ≤ 60 ∧ v.length ≤ 60 ∧ r ≤ 3 ∧ s ≤ 1 ∧
  prs.length + n + 1 = r ∧ Inb u.length v.length prs ∧ NumD P w H d D ∧ D.length ≤ 500000 ∧
  ∀ L H' D' ks, But d H H' → NumD P w H' d D' → (∃ t, D' = D ++ t) → D'.length ≤ D.length + 400000 → H' L = some (.lst (ks.map natV)) → KindsOk D' n u v prs s ks → Q (.ref L) H'
theorem sel_le {u v : List Nat} {prs : Prs} (hin : Inb u.length v.length prs) {s : Nat} {y : Nat} (hy : y ∈ prs.map (sel s)) : y ≤ (wd u v s).length := by
  obtain ⟨z, hz, rfl⟩ := List.mem_map.mp hy
  have := hin z hz
  unfold sel wd
  split
  · exact this.1
  · exact this.2
theorem sel_at {s : Nat} (h : s ≤ 1) (z : Nat × Nat) : atI [natV z.1, natV z.2] (s : Int) = some (natV (sel s z)) := by
  rcases s with _ | _ | s
  · rfl
  · rfl
  · omega
/-- the second word's number is the first word's, exactly if the pair may be added -/
theorem kinds_iff {D : List (List Itm)} (nd : D.Nodup) {n : Nat} {u v : List Nat} {prs : Prs} {s x y j k : Nat} {ks js : List Nat} (hin : Inb u.length v.length prs) (hs : s ≤ 1) (g1 : KindsOk D n u v prs s ks) (g2 : KindsOk D n u v prs (1 - s) js) (hk : ks[x]? = some k) (hj : js[y]? = some j) :
    j = k ↔ Win n u v (prs ++ [mkp s x y]) := by
  have n1 := g1.2 x k hk
  have n2 := g2.2 y j hj
  have lx : x < (wd u v s).length + 1 := by rw [← g1.1]; exact (List.getElem?_eq_some_iff.mp hk).1
  have ly : y < (wd u v (1 - s)).length + 1 := by rw [← g2.1]; exact (List.getElem?_eq_some_iff.mp hj).1
  have hin2 : ∀ z : Nat × Nat, z.1 ≤ u.length → z.2 ≤ v.length → Inb u.length v.length (prs ++ [z]) := fun z h1 h2 q hq => by
    rcases List.mem_append.mp hq with e | e
    · exact hin q e
    · rw [List.mem_singleton.mp e]; exact ⟨h1, h2⟩
  rcases s with _ | _ | s
  · have q := num_iff nd (r := n) (u := u) (v := v) (Z := prs ++ [(x, y)]) (n := k) (m := j) (hin2 (x, y) (Nat.le_of_lt_succ lx) (Nat.le_of_lt_succ ly)) (by rw [List.map_append]; exact n1) (by rw [List.map_append]; exact n2)
    exact eq_comm.trans q
  · have q := num_iff nd (r := n) (u := u) (v := v) (Z := prs ++ [(y, x)]) (n := j) (m := k) (hin2 (y, x) (Nat.le_of_lt_succ ly) (Nat.le_of_lt_succ lx)) (by rw [List.map_append]; exact n2) (by rw [List.map_append]; exact n1)
    exact q
  · omega
theorem kcost {n : Nat} {m : Nat} (h : m ≤ 60) (hn : n ≤ 2) : (m + 1) * cost n m ≤ 400000 := by
  have := cost_le (r := n + 1) h (by omega)
  have e : cost (n + 1) m = 1 + (m + 1) * cost n m := rfl
  omega
section
variable {P : Program} {w : World} {K : PySem.W.Frag} {mg : Str → Option Value} {base : Heap}
theorem ok_kinds {f C : Addr} {fd : FuncData} (F : Fun K "kinds" "Game.kinds" sKinds f fd) (T : GameT K mg C) (tl : mg "len" = none) (tt : mg "tuple" = none) (tr : mg "range" = none) (ckind : ∀ r : Nat, r ≤ 10 → Cal P w K mg base "kind_number" (3 + r) ["word", "places", "rounds", "numbers"] (spKindN P w K r)) :
    FnOk P w K mg base CX0 6 f fd ["self", "side", "numbers"] (spKinds P w C) := by
  refine F.ok scKinds (fun vs H Q E h => ?_) (fun cdv A outer s H vs Q E hr h => ?_)
  · obtain ⟨p, dx, wt, pt, al, u, v, r, s, n, prs, qs, d, D, rfl, _⟩ := h
    rfl
  obtain ⟨p, dx, wt, pt, al, u, v, r, s, n, prs, qs, d, D, rfl, G, hu, hv, hr3, hs, hrn, hin, hN, hD, q⟩ := h
  have hql : qs.length = prs.length := Paired.length G.q
  have c1 := ckind n (by omega)
  have hk : 3 + n ≤ 5 := by omega
  refine ⟨_, (pss_cons (ps_set (i := 3) scKinds.nd rfl (Or.inr rfl) (pe_op op_sub (pe_op op_sub (pe_fld (pv 0) rfl) (pB1 call_len_seq tl (pe_fld (pv 0) rfl))) pe_int))
    (pss_cons (ps_set (i := 4) scKinds.nd rfl (Or.inr rfl) (pT1 (r := rTupOf K) cr_tupOf tt (pe_lc (wi := iTup K (tFld K (tVar 0) "pairs")) (own := [("pair", 7)]) (g := gName 7) (tt := tYes) rfl scKinds.nd (pi_tup (pe_fld (pv 0) rfl)) (blkOk_by (own := [("pair", 7)]) (N := ["self", "side", "numbers", "left", "chosen", "word", "place", "pair"]) (sc := defScope sKinds) (by decide +kernel)) (fun _ _ _ _ _ => (pg_name (i := 7) scKinds.nd rfl (Or.inl rfl))) (fun _ _ _ _ _ => pts_nil) (fun _ _ _ _ _ => (pe_ix (r := rIxT K) ix_tup (pv 7) (pv 1) (fun _ _ => rfl))))))
    (pss_cons (ps_set (i := 5) scKinds.nd rfl (Or.inr rfl) (pixT (pe_fld (pv 0) rfl) (pv 1)))
    (pss_one (ps_ret (pe_lc (own := [("place", 6)]) (g := gName 6) (tt := tYes) rfl scKinds.nd (pi_range1 (by rfl) tr (pa_cons (pe_op op_add (pB1 call_len_str tl (pv 5)) pe_int) pa_nil)) (blkOk_by (own := [("place", 6)]) (N := ["self", "side", "numbers", "left", "chosen", "word", "place", "pair"]) (sc := defScope sKinds) (by decide +kernel)) (fun _ _ _ _ _ => (pg_name (i := 6) scKinds.nd rfl (Or.inl rfl))) (fun _ _ _ _ _ => pts_nil)
      (fun _ _ _ _ _ => (pcall c1 hr (pa_cons (pv 5) (pa_cons (pe_op (r := rCatA K) op_catA (pv 4) (pe_tup (pa_cons (pv 6) pa_nil))) (pa_cons (pv 3) (pa_cons (pv 2) pa_nil)))) (hk := hk))))))))), ?_⟩
  refine ⟨_, rfl, p, C, dx, _, _, rfl, G.o, T.cl, T.nR, gf_rounds _ _ _ _, _, rfl, p, C, dx, _, _, rfl, G.o, T.cl, T.nP, gf_pairs _ _ _ _, pt, _, rfl, .inr (SqT.of G.t), _, _, rfl, rfl, _, _, rfl, rfl, ?_⟩
  have eleft : (r : Int) - ((qs.map V.ref).length : Int) - 1 = (n : Int) := by rw [List.length_map, hql]; omega
  -- chosen
  refine ⟨_, rfl, p, C, dx, _, _, rfl, G.o, T.cl, T.nP, gf_pairs _ _ _ _, pt, rfl, ⟨_, SqT.of G.t⟩, fun L0 hL0 => ?_⟩
  refine walk_t (xs := qs.map V.ref) (fun j H' => Same H H' ∧ H' L0 = some (.lst (((prs.take j).map (sel s)).map natV))) ⟨same_new hL0 _, upd_same⟩ (fun j H' ⟨s4, _⟩ => SqT.of (s4 _ _ G.t)) ?_ ?_
  · rintro j y H4 hy ⟨s4, hD4⟩
    obtain ⟨qa, hqa, rfl, _⟩ := get_map hy
    obtain ⟨pr, hprj, hq⟩ := paired_get G.q hqa
    refine ⟨rfl, yes ?_⟩
    refine ⟨_, rfl, _, rfl, qa, _, _, _, rfl, rfl, SqT.of (s4 _ _ hq), sel_at hs pr, ?_⟩
    refine ⟨_, hD4, small_lt ?_, same_upd s4 hL0, ?_⟩
    · rw [List.length_map, List.length_map, List.length_take]
      omega
    · rw [upd_same, take_map _ hprj, List.map_append]
      rfl
  rintro H4 ⟨s4, hD4⟩
  rw [List.length_map, hql, List.take_length] at hD4
  refine ⟨L0, _, rfl, .inl ⟨SqL.of hD4, fun ct hct => ?_⟩⟩
  have s5 := s4.trans (same_new hct (.tup ((prs.map (sel s)).map natV)))
  have G5 := G.mono s5
  -- word
  refine ⟨_, rfl, p, C, dx, _, _, rfl, G5.o, T.cl, T.nW, gf_words _ _ _ _, _, rfl, wt, _, _, _, rfl, rfl, SqT.of G5.w, wd_at u v hs, ?_⟩
  have hz := wd_len (s := s) hu hv
  generalize ez : wd u v s = z at hz
  refine ⟨_, rfl, _, rfl, by rw [S_len]; exact sz (by omega), _, _, rfl, rfl, _, rfl, by rw [S_len]; omega, by rw [S_len]; omega, fun L hL => ?_⟩
  have en : (((S z).length : Int) + 1).toNat = z.length + 1 := by rw [S_len]; omega
  rw [en]
  have hct5 : (upd H4 ct (.tup ((prs.map (sel s)).map natV))) ct = some (.tup ((prs.map (sel s)).map natV)) := upd_same
  have hN5 := hN.mono s5
  have dL : d ≠ L := by
    obtain ⟨kvs, h1, _⟩ := hN5
    exact ne_of_none h1 hL
  have dct : ct ≠ d := by
    obtain ⟨kvs, h1, _⟩ := hN5
    exact ne_of hct5 h1 (by intro z; cases z)
  refine walk_r (fun i H' => ∃ (ks : List Nat) (Di : List (List Itm)), ks.length = i ∧ But d (upd H4 ct (.tup ((prs.map (sel s)).map natV))) H' ∧ H' L = some (.lst (ks.map natV)) ∧ NumD P w H' d Di ∧ (∃ t, Di = D ++ t) ∧ Di.length ≤ D.length + i * cost n z.length ∧ ∀ a k, ks[a]? = some k → Num Di n z (prs.map (sel s) ++ [a]) k)
    ⟨[], D, rfl, But.of (same_new hL _), upd_same, hN5.mono (same_new hL _), ⟨[], by simp⟩, by omega, fun a k e => by cases e⟩ ?_ ?_
  · rintro i H6 hi ⟨ks, Di, hk, b6, hL6, hN6, pre, hDi, hnum⟩
    refine ⟨rfl, yes ?_⟩
    refine ⟨_, rfl, _, rfl, _, rfl, by show 1 ≤ sizeLine; decide, fun t ht => ?_⟩
    have s7 := same_new ht (.tup [.int (0 + (i : Int))])
    have hct6 := b6 _ _ dct hct5
    have hi0 : V.int (0 + (i : Int)) = natV i := by unfold natV; rw [Int.zero_add]
    refine catA1 (SqT.of (s7 _ _ hct6)) upd_same (by rw [List.length_map, List.length_map]; omega) fun b H8 s8 hb => ?_
    have kc := kcost hz (n := n) (by omega)
    have hcc : (i + 1) * cost n z.length ≤ (z.length + 1) * cost n z.length := Nat.mul_le_mul_right _ (by omega)
    rw [Nat.succ_mul] at hcc
    refine ⟨_, rfl, _, rfl, z, prs.map (sel s) ++ [i], b, d, Di, congrArg (fun y => [V.str (S z), V.ref b, V.int y, V.ref d]) eleft, by rw [List.map_append, List.map_singleton, ← hi0]; exact hb, fun y hy => ?_, hz, by rw [List.length_append, List.length_singleton, List.length_map]; omega, (hN6.mono s7).mono s8, by omega, fun k D' H9 b9 hN9 pre9 len9 hn9 => ?_⟩
    · rcases List.mem_append.mp hy with e | e
      · rw [← ez]; exact sel_le hin e
      · rw [List.mem_singleton.mp e]; omega
    have hL9 := b9 L _ (Ne.symm dL) (s8 _ _ (s7 _ _ hL6))
    have bb : But d _ H9 := b6.trans ((But.of (s7.trans s8)).trans b9)
    refine ⟨_, hL9, small_lt (by rw [List.length_map]; omega), ks ++ [k], D', by rw [List.length_append, List.length_singleton, hk], fun c o hc1 ho => ?_, ?_, ?_, ?_, by rw [Nat.succ_mul]; omega, fun a k' hak => ?_⟩
    · rw [upd_ne (ne_of_none ho hL)]
      exact bb c o hc1 ho
    · rw [upd_same, List.map_append]
      rfl
    · obtain ⟨kvs, h1, h2, h3, h4, h5⟩ := hN9
      refine ⟨kvs, by rw [upd_ne dL]; exact h1, h2.but (a := L) (fun vs e => by rw [hL9] at e; cases e) (fun c o hc2 ho => by rw [upd_ne hc2]; exact ho), h3, h4, h5⟩
    · obtain ⟨t1, e1⟩ := pre
      obtain ⟨t2, e2⟩ := pre9
      exact ⟨t1 ++ t2, by rw [e2, e1, List.append_assoc]⟩
    · by_cases ha : a < ks.length
      · rw [List.getElem?_append_left ha] at hak
        exact (hnum a k' hak).mono pre9
      · have ha2 := (List.getElem?_eq_some_iff.mp hak).1
        rw [List.length_append, List.length_singleton] at ha2
        have ea : a = ks.length := by omega
        subst ea
        rw [List.getElem?_append_right (Nat.le_refl _)] at hak
        have e : k = k' := by simpa using hak
        rw [← e, hk]
        exact hn9
  · rintro H6 ⟨ks, Di, hk, b6, hL6, hN6, pre, hDi, hnum⟩
    have kc := kcost hz (n := n) (by omega)
    exact q L H6 Di ks ((But.of s5).trans b6) hN6 pre (by omega) hL6 ⟨by rw [ez]; exact hk, by rw [ez]; exact hnum⟩
end
end W8

set_option Elab.async false
set_option linter.all false
set_option maxRecDepth 100000
set_option maxHeartbeats 4000000
namespace W8
open PySem L2 NK GM
def Wins (n : Nat) (u v : List Nat) (prs : Prs) (s x y : Nat) : Prop := Win n u v (prs ++ [mkp s x y])
/-- the least good reply -/
def ReplyIs (n : Nat) (u v : List Nat) (prs : Prs) (s x : Nat) : Option Nat → Prop
  | some y => y ≤ (wd u v (1 - s)).length ∧ Wins n u v prs s x y ∧ ∀ z, z < y → ¬ Wins n u v prs s x z
  | none => ∀ y, y ≤ (wd u v (1 - s)).length → ¬ Wins n u v prs s x y
def optN : Option Nat → V
  | some y => natV y
  | none => .non
/-- the first side and place without a good reply -/
def AttackIs (r : Nat) (u v : List Nat) (prs : Prs) : Option (Nat × Nat) → Prop
  | some (s, x) => prs.length < r ∧ s ≤ 1 ∧ x ≤ (wd u v s).length ∧ (∀ y, y ≤ (wd u v (1 - s)).length → ¬ Wins (r - prs.length - 1) u v prs s x y) ∧
      ∀ s' x', s' ≤ 1 → x' ≤ (wd u v s').length → (s' < s ∨ s' = s ∧ x' < x) → ∃ y, y ≤ (wd u v (1 - s')).length ∧ Wins (r - prs.length - 1) u v prs s' x' y
  | none => prs.length = r ∨ ∀ s x, s ≤ 1 → x ≤ (wd u v s).length → ∃ y, y ≤ (wd u v (1 - s)).length ∧ Wins (r - prs.length - 1) u v prs s x y
def AtkV (H : Hp) : Option (Nat × Nat) → V → Prop
  | some (s, x), y => ∃ t, y = .ref t ∧ H t = some (.tup [natV s, natV x])
  | none, y => y = .non
abbrev sReply : Stmt := inClass (top 29) 8
theorem scReply : FnScope ["self", "side", "place", "numbers", "wanted", "answer", "kind"] ["self", "side", "place"] (defScope sReply) := ⟨rfl, rfl, rfl, by decide +kernel, rfl, by decide +kernel, by decide +kernel⟩
def spReply (C : Addr) : Sp := fun vs H Q _ => ∃ (p dx wt pt : Addr) (al u v : List Nat) (r s x : Nat) (prs : Prs) (qs : List Addr), vs = [.ref p, .int (s : Int), .int (x : Int)] ∧ GameSt H p C dx wt pt al u v r prs qs ∧ u.length ≤ 60 ∧ v.length ≤ 60 ∧ r ≤ 3 ∧ s ≤ 1 ∧ prs.length < r ∧ Inb u.length v.length prs ∧ x ≤ (wd u v s).length ∧
  ∀ o H', Same H H' → ReplyIs (r - prs.length - 1) u v prs s x o → Q (optN o) H'
abbrev sAttack : Stmt := inClass (top 29) 9
theorem scAttack : FnScope ["self", "numbers", "side", "found", "place", "kind"] ["self"] (defScope sAttack) := ⟨rfl, rfl, rfl, by decide +kernel, rfl, by decide +kernel, by decide +kernel⟩
def spAttack (C : Addr) : Sp := fun vs H Q _ => ∃ (p dx wt pt : Addr) (al u v : List Nat) (r : Nat) (prs : Prs) (qs : List Addr), vs = [.ref p] ∧ GameSt H p C dx wt pt al u v r prs qs ∧ u.length ≤ 60 ∧ v.length ≤ 60 ∧ r ≤ 3 ∧ prs.length ≤ r ∧ Inb u.length v.length prs ∧
  ∀ o y H', Same H H' → AttackIs r u v prs o → AtkV H' o y → Q y H'
theorem inV_nat {k : Nat} {ks : List Nat} : inV (natV k) (ks.map natV) = true ↔ k ∈ ks := by
  unfold inV
  rw [List.any_map, List.any_eq_true]
  constructor
  · rintro ⟨x, hx, e⟩
    have e2 : ((x : Int) == (k : Int)) = true := e
    have e3 : (x : Int) = (k : Int) := by simpa using e2
    have : x = k := by omega
    exact this ▸ hx
  · intro h
    exact ⟨k, h, (by show ((k : Int) == (k : Int)) = true; simp)⟩
theorem flat_nat (ks : List Nat) : (ks.map natV).all flatV = true := by
  rw [List.all_map, List.all_eq_true]
  exact fun _ _ => rfl
section
variable {P : Program} {w : World} {K : PySem.W.Frag} {mg : Str → Option Value} {base : Heap}
theorem ok_reply {f C : Addr} {fd : FuncData} (F : Fun K "reply" "Game.reply" sReply f fd) (T : GameT K mg C) (te : mg "enumerate" = none) (cc : MCal P w K mg base C "check_choice" 2 ["self", "side", "place"] (spChoice C)) (ck : MCal P w K mg base C "kinds" 6 ["self", "side", "numbers"] (spKinds P w C)) :
    FnOk P w K mg base CX0 7 f fd ["self", "side", "place"] (spReply C) := by
  refine F.ok scReply (fun vs H Q E h => ?_) (fun cdv A outer s H vs Q E hr h => ?_)
  · obtain ⟨p, dx, wt, pt, al, u, v, r, s, x, prs, qs, rfl, _⟩ := h
    rfl
  obtain ⟨p, dx, wt, pt, al, u, v, r, s, x, prs, qs, rfl, G, hu, hv, hr3, hs, hp, hin, hx, q⟩ := h
  obtain ⟨f1, fd1, G1, m1, b1⟩ := cc.ex
  obtain ⟨f2, fd2, G2, m2, b2⟩ := ck.ex
  refine ⟨_, (pss_cons (ps_expr (pe_meth (pv 0) T.cl m1 G1 (hr.mono (by decide)) b1 .nil pass0 (pa_cons (pv 1) (pa_cons (pv 2) pa_nil))))
    (pss_cons (ps_set (i := 3) scReply.nd rfl (Or.inl rfl) NK.pe_nnew)
    (pss_cons (ps_set (i := 4) scReply.nd rfl (Or.inl rfl) (pixL (pe_meth (pv 0) T.cl m2 G2 hr b2 .nil pass0 (pa_cons (pv 1) (pa_cons (pv 3) pa_nil))) (pv 2)))
    (pss_cons (ps_for PassesOwn.never rfl (pi_enum (by rfl) te (pa_cons (pe_meth (pv 0) T.cl m2 G2 hr b2 .nil pass0 (pa_cons (pe_op op_sub pe_int (pv 1)) (pa_cons (pv 3) pa_nil))) pa_nil)) (pg_tup (by rfl) (pgs_cons (pg_name (i := 5) scReply.nd rfl (Or.inl rfl)) (pgs_cons (pg_name (i := 6) scReply.nd rfl (Or.inl rfl)) pgs_nil)))
      (pss_one (ps_if (pt_cmpR op_eq (pv 6) (pv 4) (nomark _))
        (pss_one (ps_ret (pv 5)))
        pss_nil)))
    (pss_one (ps_ret pe_non)))))), ?_⟩
  refine ⟨_, rfl, p, dx, _, rfl, G.o, gf_no _ _ _ _ (by decide +kernel), _, rfl, _, rfl, p, dx, wt, pt, al, u, v, r, s, x, prs, qs, rfl, G, hu, hv, hs, hp, hx, fun H1 s1 => ?_⟩
  intro d hd
  have sd := s1.trans (same_new hd (ND P w d []))
  have Gd := G.mono sd
  have hNd : NumD P w (upd H1 d (ND P w d [])) d [] := ⟨[], upd_same, (fun _ h => nomatch h), rfl, (fun _ _ e => by cases e), List.nodup_nil⟩
  refine ⟨_, rfl, p, dx, _, rfl, Gd.o, gf_no _ _ _ _ (by decide +kernel), _, rfl, _, rfl, p, dx, wt, pt, al, u, v, r, s, r - prs.length - 1, prs, qs, d, [], rfl, Gd, hu, hv, hr3, hs, by omega, hin, hNd, by decide, fun La H2 D1 ks b2 hN2 pre2 len2 hLa gk => ?_⟩
  obtain ⟨k, hk⟩ : ∃ k, ks[x]? = some k := ⟨ks[x]'(by rw [gk.1]; omega), List.getElem?_eq_getElem _⟩
  refine ⟨_, rfl, La, _, _, _, rfl, rfl, SqL.of hLa, atI_nat (by rw [List.getElem?_map, hk] <;> rfl), ?_⟩
  have S2 : Same H H2 := fun b o e => b2 b o (ne_of_none (s1 _ _ e) hd) (sd b o e)
  have G2 := G.mono S2
  refine ⟨_, rfl, p, dx, _, rfl, G2.o, gf_no _ _ _ _ (by decide +kernel), _, rfl, _, _, rfl, rfl, _, rfl, p, dx, wt, pt, al, u, v, r, 1 - s, r - prs.length - 1, prs, qs, d, D1, ?_, G2, hu, hv, hr3, by omega, by omega, hin, hN2, ?_, fun Lb H3 D2 js b3 hN3 pre3 len3 hLb gj => ?_⟩
  · exact congrArg (fun z => [V.ref p, V.int z, V.ref d]) (by omega)
  · have : ([] : List (List Itm)).length = 0 := rfl
    omega
  have S3 : Same H H3 := fun b o e => b3 b o (ne_of_none (s1 _ _ e) hd) (S2 b o e)
  obtain ⟨kvs, _, _, _, _, nd⟩ := hN3
  have gk2 := gk.mono pre3
  have key : ∀ y j, js[y]? = some j → (j = k ↔ Wins (r - prs.length - 1) u v prs s x y) := fun y j hj => kinds_iff nd hin hs gk2 gj hk hj
  refine ⟨Lb, _, rfl, SqL.of hLb, ?_⟩
  refine L2.for_it (walk_enum (xs := js.map natV)) (fun i σ H' => ∃ (y1 y2 : Option V), σ = [some (.ref p), some (.int (s : Int)), some (.int (x : Int)), some (.ref d), some (natV k), y1, y2] ∧ Same H3 H' ∧ ∀ z, z < i → ¬ Wins (r - prs.length - 1) u v prs s x z) ⟨none, none, rfl, Same.refl H3, fun z hz => by omega⟩ (fun _ _ _ _ ⟨_, _, _, s4, _⟩ => SqL.of (s4 _ _ hLb)) ?_ ?_
  · rintro i y σ H4 H5 hi ⟨y1, y2, rfl, s4, hno⟩ ⟨t, a, b, rfl, ht, rfl, ha, hb⟩
    obtain rfl : a = natV i := (Option.some.inj ha).symm
    obtain ⟨j, hj, rfl, _⟩ := get_map hb
    have s5 := s4.trans (same_new ht (.tup [natV i, natV j]))
    refine ⟨t, _, rfl, SqT.of upd_same, rfl, _, _, rfl, _, _, rfl, rfl, ?_⟩
    refine ⟨_, rfl, _, rfl, rfl, _, rfl, ?_⟩
    have hil : i ≤ (wd u v (1 - s)).length := by
      have := (List.getElem?_eq_some_iff.mp hj).1
      have := gj.1
      omega
    refine ite2 (fun e => ?_) (fun e => ?_)
    · have e1 : j = k := by have := int_eq e; omega
      exact ⟨_, rfl, q (some i) _ (S3.trans s5) ⟨hil, (key i j hj).mp e1, hno⟩⟩
    · refine ⟨_, _, rfl, s5, fun z hz hw => ?_⟩
      by_cases ez : z = i
      · subst ez
        exact e (decide_eq_true (by rw [(key z j hj).mpr hw]))
      · exact hno z (by omega) hw
  · rintro σ H4 ⟨y1, y2, rfl, s4, hno⟩
    rw [List.length_map, gj.1] at hno
    exact q none H4 (S3.trans s4) fun y hy => hno y (by omega)
theorem ok_attack {f C : Addr} {fd : FuncData} (F : Fun K "attack" "Game.attack" sAttack f fd) (T : GameT K mg C) (tl : mg "len" = none) (te : mg "enumerate" = none) (ck : MCal P w K mg base C "kinds" 6 ["self", "side", "numbers"] (spKinds P w C)) :
    FnOk P w K mg base CX0 7 f fd ["self"] (spAttack C) := by
  refine F.ok scAttack (fun vs H Q E h => ?_) (fun cdv A outer s H vs Q E hr h => ?_)
  · obtain ⟨p, dx, wt, pt, al, u, v, r, prs, qs, rfl, _⟩ := h
    rfl
  obtain ⟨p, dx, wt, pt, al, u, v, r, prs, qs, rfl, G, hu, hv, hr3, hp, hin, q⟩ := h
  obtain ⟨f2, fd2, G2, m2, b2⟩ := ck.ex
  have hql : qs.length = prs.length := Paired.length G.q
  refine ⟨_, (pss_cons (ps_if (pt_cmpR op_eq (pB1 call_len_seq tl (pe_fld (pv 0) rfl)) (pe_fld (pv 0) rfl) (nomark _))
      (pss_one (ps_ret pe_non))
      pss_nil)
    (pss_cons (ps_set (i := 1) scAttack.nd rfl (Or.inr rfl) NK.pe_nnew)
    (pss_cons (ps_setLc (i := 3) (own := [("side", 2)]) (g := gName 2) (tt := tYes) rfl scAttack.nd rfl rfl (sw_true rfl rfl rfl (by decide +kernel)) (pi_tup (pe_tup (pa_cons pe_int (pa_cons pe_int pa_nil)))) (blkOk_by (own := [("side", 2)]) (N := ["self", "numbers", "side", "found", "place", "kind"]) (sc := defScope sAttack) (by decide +kernel)) (fun _ _ _ _ _ => (pg_name (i := 2) scAttack.nd rfl (Or.inl rfl))) (fun _ _ _ _ _ => pts_nil) (fun _ _ _ _ _ => (pe_meth (pv 0) T.cl m2 G2 hr b2 .nil pass0 (pa_cons (pv 2) (pa_cons (pv 1) pa_nil)))))
    (pss_cons (ps_for PassesOwn.never rfl (pi_tup (pe_tup (pa_cons pe_int (pa_cons pe_int pa_nil)))) (pg_name (i := 2) scAttack.nd rfl (Or.inl rfl))
      (pss_one (ps_for PassesOwn.never rfl (pi_enum (by rfl) te (pa_cons (pixL (pv 3) (pv 2)) pa_nil)) (pg_tup (by rfl) (pgs_cons (pg_name (i := 4) scAttack.nd rfl (Or.inl rfl)) (pgs_cons (pg_name (i := 5) scAttack.nd rfl (Or.inl rfl)) pgs_nil)))
        (pss_one (ps_if (pt_cmpR op_notIn_seq (pv 5) (pixL (pv 3) (pe_op op_sub pe_int (pv 2))) rfl)
          (pss_one (ps_ret (pe_tup (pa_cons (pv 2) (pa_cons (pv 4) pa_nil)))))
          pss_nil)))))
    (pss_one (ps_ret pe_non)))))), ?_⟩
  refine ⟨_, rfl, p, C, dx, _, _, rfl, G.o, T.cl, T.nP, gf_pairs _ _ _ _, pt, _, rfl, .inr (SqT.of G.t), _, rfl, p, C, dx, _, _, rfl, G.o, T.cl, T.nR, gf_rounds _ _ _ _, rfl, _, rfl, ?_⟩
  refine ite2 (fun e => ?_) (fun e => ?_)
  · have e1 := int_eq e
    rw [List.length_map] at e1
    exact q none .non H (Same.refl H) (.inl (by omega)) rfl
  have hlt : prs.length < r := by
    have : prs.length ≠ r := fun z => e (decide_eq_true (by rw [List.length_map, hql, z]))
    omega
  intro d hd
  have sd := same_new hd (ND P w d [])
  have hNd : NumD P w (upd H d (ND P w d [])) d [] := ⟨[], upd_same, (fun _ h => nomatch h), rfl, (fun _ _ e => by cases e), List.nodup_nil⟩
  refine ⟨by show 2 ≤ sizeLine; decide, fun a0 ha0 => ?_⟩
  have sa := same_new ha0 (.tup [.int 0, .int 1])
  have Ga := (G.mono sd).mono sa
  refine ⟨a0, rfl, ⟨_, SqT.of upd_same⟩, fun L hL => ?_⟩
  have dL : d ≠ L := ne_of_none (sa _ _ upd_same) hL
  have hne : ∀ (l : Addr) (ks : List Nat) (ls : List Addr) (H' : Hp), ks.length ≠ 0 → H' l = some (.lst (ks.map natV)) → H' L = some (.lst (ls.map V.ref)) → l ≠ L := by
    intro l ks ls H' hk h1 h2 e
    rw [e, h2] at h1
    have e2 : ls.map V.ref = ks.map natV := by injection (Option.some.inj h1)
    match ks, ls, hk, e2 with
    | [], _, hk, _ => exact hk rfl
    | _ :: _, [], _, e2 => cases e2
    | _ :: _, _ :: _, _, e2 => injection e2 with e3 _; cases e3
  refine walk_t (xs := [.int 0, .int 1]) (fun i H' => But d (upd (upd H d (ND P w d [])) a0 (.tup [.int 0, .int 1])) H' ∧ ∃ (ls : List Addr) (Di : List (List Itm)), ls.length = i ∧ H' L = some (.lst (ls.map V.ref)) ∧ NumD P w H' d Di ∧ Di.length ≤ i * 400000 ∧
      ∀ (j : Nat) l, ls[j]? = some l → ∃ ks, H' l = some (.lst (ks.map natV)) ∧ KindsOk Di (r - prs.length - 1) u v prs j ks)
    ⟨But.of (same_new hL _), [], [], rfl, upd_same, (hNd.mono sa).mono (same_new hL _), Nat.le_refl _, fun j l e => by cases e⟩ (fun i H' ⟨s3, _⟩ => SqT.of (s3 _ _ (ne_of upd_same (sa _ _ upd_same) (by intro z; cases z)) upd_same)) ?_ ?_
  · rintro i x H3 hx ⟨b3, ls, Di, hls, hL3, hN3, hDi, hall⟩
    have hx2 : i ≤ 1 ∧ x = .int (i : Int) := by
      rcases i with _ | _ | i
      · cases hx; exact ⟨by omega, rfl⟩
      · cases hx; exact ⟨by omega, rfl⟩
      · cases hx
    obtain ⟨hi, rfl⟩ := hx2
    have S3 : Same H H3 := fun b o e => b3 b o (ne_of_none e hd) (sa b o (sd b o e))
    have G3 := G.mono S3
    refine ⟨rfl, yes ?_⟩
    refine ⟨_, rfl, p, dx, _, rfl, G3.o, gf_no _ _ _ _ (by decide +kernel), _, rfl, _, rfl, p, dx, wt, pt, al, u, v, r, i, r - prs.length - 1, prs, qs, d, Di, rfl, G3, hu, hv, hr3, hi, by omega, hin, hN3, by omega, fun La H4 D4 ks b4 hN4 pre4 len4 hLa gk => ?_⟩
    have hL4 := b4 L _ (Ne.symm dL) hL3
    have nLa := hne La ks ls H4 (by rw [gk.1]; omega) hLa hL4
    refine ⟨_, hL4, small_lt (by rw [List.length_map]; omega), fun c o hc ho => ?_, ls ++ [La], D4, by rw [List.length_append, hls]; rfl, ?_, ?_, by omega, fun j l hj => ?_⟩
    · rw [upd_ne (ne_of_none ho hL)]
      exact b4 c o hc (b3 c o hc ho)
    · rw [upd_same, List.map_append]
      rfl
    · obtain ⟨kvs, h1, h2, h3, h4, h5⟩ := hN4
      exact ⟨kvs, by rw [upd_ne dL]; exact h1, h2.but (a := L) (fun vs e => by rw [hL4] at e; cases e) (fun c o hc2 ho => by rw [upd_ne hc2]; exact ho), h3, h4, h5⟩
    · by_cases hjl : j < ls.length
      · rw [List.getElem?_append_left hjl] at hj
        obtain ⟨ks', h1, g1⟩ := hall j l hj
        have nd : l ≠ d := by
          obtain ⟨kvs, h2, _⟩ := hN3
          exact ne_of h1 h2 (by intro z; cases z)
        have h1' := b4 l _ nd h1
        have n1 := hne l ks' ls H4 (by rw [g1.1]; omega) h1' hL4
        exact ⟨ks', by rw [upd_ne n1]; exact h1', g1.mono pre4⟩
      · have hj2 := (List.getElem?_eq_some_iff.mp hj).1
        rw [List.length_append, List.length_singleton] at hj2
        have ej : j = ls.length := by omega
        rw [ej, List.getElem?_append_right (Nat.le_refl _)] at hj
        have et : La = l := by simpa using hj
        rw [← et, ej, hls]
        exact ⟨ks, by rw [upd_ne nLa]; exact hLa, gk⟩
  rintro H3 ⟨b3, ls, Di, hls, hL3, hN3, hDi, hall⟩
  obtain ⟨l0, l1, rfl⟩ : ∃ l0 l1, ls = [l0, l1] := by
    match ls, hls with
    | [t0, t1], _ => exact ⟨t0, t1, rfl⟩
  have S3 : Same H H3 := fun b o e => b3 b o (ne_of_none e hd) (sa b o (sd b o e))
  obtain ⟨kvs, _, _, _, _, nd⟩ := hN3
  refine ⟨by show 2 ≤ sizeLine; decide, fun a1 ha1 => ?_⟩
  have sb := same_new ha1 (.tup [.int 0, .int 1])
  refine ⟨a1, rfl, ⟨_, SqT.of upd_same⟩, ?_⟩
  refine for_tup (K := K) (a := a1) (xs := [.int 0, .int 1]) (fun i σ H' => ∃ (y2 y4 y5 : Option V), σ = [some (.ref p), some (.ref d), y2, some (.ref L), y4, y5] ∧ Same (upd H3 a1 (.tup [.int 0, .int 1])) H' ∧
      ∀ s' x', s' < i → x' ≤ (wd u v s').length → ∃ y, y ≤ (wd u v (1 - s')).length ∧ Wins (r - prs.length - 1) u v prs s' x' y) ⟨none, none, none, rfl, Same.refl _, fun s' x' h => by omega⟩ (fun i σ H' _ ⟨_, _, _, _, s4, _⟩ => SqT.of (s4 _ _ upd_same)) ?_ ?_
  · rintro i x σ H4 hx ⟨y2, y4, y5, rfl, s4, hwin⟩
    have hx2 : i ≤ 1 ∧ x = .int (i : Int) := by
      rcases i with _ | _ | i
      · cases hx; exact ⟨by omega, rfl⟩
      · cases hx; exact ⟨by omega, rfl⟩
      · cases hx
    obtain ⟨hi, rfl⟩ := hx2
    have s34 := sb.trans s4
    obtain ⟨li, hli⟩ : ∃ li, [l0, l1][i]? = some li := by
      rcases i with _ | _ | i
      · exact ⟨_, rfl⟩
      · exact ⟨_, rfl⟩
      · omega
    obtain ⟨lj, hlj⟩ : ∃ lj, [l0, l1][1 - i]? = some lj := by
      rcases i with _ | _ | i
      · exact ⟨_, rfl⟩
      · exact ⟨_, rfl⟩
      · omega
    obtain ⟨ks, hks, gk⟩ := hall i li hli
    obtain ⟨js, hjs, gj⟩ := hall (1 - i) lj hlj
    have at1 : atI ([l0, l1].map V.ref) (i : Int) = some (.ref li) := atI_nat (by rw [List.getElem?_map, hli] <;> rfl)
    have at2 : atI ([l0, l1].map V.ref) (1 - (i : Int)) = some (.ref lj) := by
      have e : 1 - (i : Int) = ((1 - i : Nat) : Int) := by omega
      rw [e]
      exact atI_nat (by rw [List.getElem?_map, hlj] <;> rfl)
    refine ⟨_, rfl, _, rfl, L, _, _, _, rfl, rfl, SqL.of (s34 _ _ hL3), at1, li, _, rfl, SqL.of (s34 _ _ hks), ?_⟩
    refine L2.for_it (walk_enum (xs := ks.map natV)) (fun j σ H' => ∃ (y4 y5 : Option V), σ = [some (.ref p), some (.ref d), some (.int (i : Int)), some (.ref L), y4, y5] ∧ Same H3 H' ∧ Same (upd H3 a1 (.tup [.int 0, .int 1])) H' ∧
        ∀ x', x' < j → ∃ y, y ≤ (wd u v (1 - i)).length ∧ Wins (r - prs.length - 1) u v prs i x' y) ⟨_, _, rfl, s34, s4, fun x' h => by omega⟩ (fun _ _ _ _ ⟨_, _, _, s5, _⟩ => SqL.of (s5 _ _ hks)) ?_ ?_
    · rintro j y σ H5 H6 hj ⟨y4, y5, rfl, s5, s5', hin5⟩ ⟨t, a, b, rfl, ht, rfl, ha, hb⟩
      obtain rfl : a = natV j := (Option.some.inj ha).symm
      obtain ⟨k, hk, rfl, _⟩ := get_map hb
      have st := same_new ht (.tup [natV j, natV k])
      have s6 := s5.trans st
      have hjl : j ≤ (wd u v i).length := by
        have := (List.getElem?_eq_some_iff.mp hk).1
        have := gk.1
        omega
      have key : ∀ y k', js[y]? = some k' → (k' = k ↔ Wins (r - prs.length - 1) u v prs i j y) := fun y k' hy => kinds_iff nd hin hi gk gj hk hy
      refine ⟨t, _, rfl, SqT.of upd_same, rfl, _, _, rfl, _, _, rfl, rfl, ?_⟩
      refine ⟨_, rfl, _, rfl, _, rfl, _, _, rfl, rfl, L, _, _, _, rfl, rfl, SqL.of (s6 _ _ hL3), at2, lj, _, rfl, .inl (SqL.of (s6 _ _ hjs)), rfl, flat_nat js, _, rfl, ?_⟩
      refine ite2 (fun e => ?_) (fun e => ?_)
      · have hnot : k ∉ js := fun hm => by
          have e2 : (!inV (natV k) (js.map natV)) = true := e
          rw [inV_nat.mpr hm] at e2
          cases e2
        refine ⟨_, rfl, _, rfl, by show 2 ≤ sizeLine; decide, fun tt htt => ?_⟩
        have s7 := s6.trans (same_new htt (.tup [natV i, natV j]))
        refine q (some (i, j)) _ _ (S3.trans s7) ⟨hlt, hi, hjl, fun y hy hw => ?_, fun s' x' h1 h2 h3 => ?_⟩ ⟨tt, rfl, upd_same⟩
        · obtain ⟨k', hk'⟩ : ∃ k', js[y]? = some k' := ⟨js[y]'(by rw [gj.1]; omega), List.getElem?_eq_getElem _⟩
          exact hnot ((key y k' hk').mpr hw ▸ List.mem_of_getElem? hk')
        · rcases h3 with h3 | ⟨rfl, h3⟩
          · exact hwin s' x' h3 h2
          · exact hin5 x' h3
      · have hm : k ∈ js := by
          refine Classical.byContradiction fun hm => e ?_
          have e2 : inV (natV k) (js.map natV) = false := Bool.eq_false_iff.mpr fun z => hm (inV_nat.mp z)
          show (!inV (natV k) (js.map natV)) = true
          rw [e2]
          rfl
        refine ⟨_, _, rfl, s6, s5'.trans st, fun x' hx' => ?_⟩
        by_cases ex : x' = j
        · subst ex
          obtain ⟨y, hy⟩ := List.getElem?_of_mem hm
          have := (List.getElem?_eq_some_iff.mp hy).1
          have := gj.1
          exact ⟨y, by omega, (key y k hy).mp rfl⟩
        · exact hin5 x' (by omega)
    · rintro σ H5 ⟨y4, y5, rfl, s5, s5', hin5⟩
      rw [List.length_map, gk.1] at hin5
      refine ⟨_, _, _, rfl, s5', fun s' x' h1 h2 => ?_⟩
      by_cases ex : s' = i
      · subst ex
        exact hin5 x' (by omega)
      · exact hwin s' x' (by omega) h2
  · rintro σ H4 ⟨y2, y4, y5, rfl, s4, hwin⟩
    exact q none .non H4 (S3.trans (sb.trans s4)) (.inr fun s' x' h1 h2 => hwin s' x' (by show s' < 2; omega) h2) rfl
end
end W8

set_option Elab.async false
set_option linter.all false
set_option maxRecDepth 100000
set_option maxHeartbeats 4000000
/-! an own exception whose __init__ says super().__init__(text) and stores one field -/
namespace PySem
namespace XM
open PySem.W PySem.Calls PyProof.Rows
def xA (f : Str) (p1 p2 : Pos) : Arguments := { posonlyargs := [], args := [{ arg := "self", annotation := none, pos := p1 }, { arg := f, annotation := none, pos := p2 }], vararg := none, kwonlyargs := [], kw_defaults := [], kwarg := none, defaults := [] }
def xB (f msg : Str) (j : Nat) (p0 p1 p2 p3 p4 p5 q1 q2 q3 q4 : Pos) : List Stmt := [.Expr (.Call (.Attribute (.Call (.Name "super" p0) [] [] p1) "__init__" p2) [.Constant (.str msg) j p3] [] p4) p5, .Assign [.Attribute (.Name "self" q1) f q2] (.Name f q3) q4]
def xS (f : Str) : Scope := { kind := .function, names := [(PySem.Str.ofString "self", .local), (f, .local), (PySem.Str.ofString "__class__", .free), (PySem.Str.ofString "super", .globalImplicit)], isGenerator := false, isCoroutine := false, more := [] }
/-- what is written of such a class: C, D the class that has the __init__ fI -/
structure XmC (prog : Program) (K : Frag) (C D fI : Addr) (f : Str) : Prop where
  cls : ∃ nm q N bs bm sn sub ab col dd k0 k1 k2 k3 k5, K.lookup C = some (excClassObj nm q C N bs bm true sn sub ab col dd k0 k1 k2 k3 k5 "ValueError.__new__") ∧ HandSPX.refsVE bm = true
  sa : findIn K (.ref C) "__setattr__" = some (some (.builtin "object.__setattr__"))
  noF : findIn K (.ref C) f = some none
  iC : findIn K (.ref C) "__init__" = some (some (.ref fI))
  tI : typeIn K (.ref fI) = some (.type "function")
  kC : keepIn K (.ref C) = true
  exC : subIn K (.ref C) (.type "BaseException") = some true
  vC : subIn K (.ref C) (.type "ValueError") = some true
  tyC : typeIn K (.ref C) = some (.type "type")
  fn : ∃ (cc cda : Addr) (oc doc pm ct : Value) (od an : Option Addr) (osl : Array (Option Value)) (qual msg : Str) (j : Nat) (p0 p1 p2 p3 p4 p5 q1 q2 q3 q4 r1 r2 : Pos),
    K.lookup fI = some ⟨oc, od, .func (ksFn "__init__" qual (xA f r1 r2) (xB f msg j p0 p1 p2 p3 p4 p5 q1 q2 q3 q4) (xS f) .none .none doc pm an (.ref cda) ct cc), osl⟩ ∧ codeIn K (.ref cda) qual = true ∧ (p2.endLine == p4.line) = true ∧
      (∃ ccl cdd vs ccs file tf, K.lookup cda = some ⟨ccl, cdd, .fields vs, ccs⟩ ∧ vs[2]? = some (.str file tf) ∧ ((prog.main.file : Str) == file) = true) ∧
      (∃ cl cld csl, K.lookup cc = some ⟨cl, cld, .cell (some (.ref D)), csl⟩)
  nf : f = "index" ∨ f = "state" ∨ f = "limit"
  bd : ∀ (qual msg : Str) (j : Nat) (p0 p1 p2 p3 p4 p5 q1 q2 q3 q4 r1 r2 : Pos) (doc pm ct : Value) (an : Option Addr) (cc cda : Addr) (s : Shared) (u v : Value), BindsTo s (ksFn "__init__" qual (xA f r1 r2) (xB f msg j p0 p1 p2 p3 p4 p5 q1 q2 q3 q4) (xS f) .none .none doc pm an (.ref cda) ct cc) ⟨[u, v], []⟩ [("self", u), (f, v)]
  clD : ∃ cdD, clsIn K D = some cdD
  subD : mroIn K C (.ref D) = some true
  sup : ks_superIn K C D "__init__" = some (some (.builtin "ValueError.__init__"))
  thi : nsIn K cStatics "thirdparty.any" = some none
  top : (prog.main.scope.names.lookup ("super" : Str)).isSome = false
theorem eval_meth {o : Expr} {name : Str} {apos pos : Pos} {e : Expr} {env : Env} (hp : (apos.endLine == pos.line) = true) (hs : starEach [e] env = [(false, eval e env)] := by rfl) :
    eval (.Call (.Attribute o name apos) [e] [] pos) env = (do
      let ov ← attributeBase o name env (eval o env)
      standAt apos.atName
      let (f, first) ← holding [ov] (getMethod ov name (do return (← importBound o env).getD true))
      callWith pos f first (backTo pos (starEach [e] env)) []) := by
  have hc : ∀ a k, (!methodCallForm 1 a k || apos.endLine == pos.line) = true := fun a k => by rw [hp]; simp
  show (do
    let ov ← attributeBase o name env (eval o env)
    standAt apos.atName
    methodCall o name apos pos env ov 1 (backTo pos (starEach [e] env)) []) = _
  unfold methodCall methodCallPos
  simp only [hc, if_true]
  rw [hs]
  rfl
theorem cls_at {K : Frag} {h : Heap} {D : Addr} {cd : ClassData} (X : K.In h) (hD : clsIn K D = some cd) : ∃ oD, h.get? D = some oD ∧ oD.data = .cls cd := by
  unfold clsIn at hD
  split at hD
  · rename_i c d cd' sl ho
    cases hD
    exact ⟨_, X _ _ ho, rfl⟩
  · cases hD
theorem spliced1 {M : Model} {A : Around} {E : Value → Shared → Prop} {s : Shared} {t : Sem Value} {Q : List Value → Shared → Prop} {pos : Pos} (h : wpAny M A t (fun v s1 => Q [v] s1) E s) : wpAny M A (spliced (backTo pos [(false, t)])) Q E s := by
  refine Calls.spliced_cons (wpAny_mono h (fun v s1 q => ?_) fun _ _ x => x)
  exact Calls.spliced_nil q
theorem kept_but {K : Frag} {h h' : Heap} {x : Addr} (X : K.In h) (hx : K.lookup x = none) (k : ∀ b o, b ≠ x → h.get? b = some o → h'.get? b = some o) : K.In h' := fun a o e =>
  k a o (fun z => by rw [z, hx] at e; cases e) (X a o e)
theorem ldX {M : Model} {A : Around} {E : Value → Shared → Prop} {s : Shared} {env : Env} {m : Str → Option Value} {x : Str} {pos : Pos} {v : Value} {Q : Value → Shared → Prop} (hn : s.heap.Ns env.locals m) (hv : m x = some v) (h : Q v s)
    (hk : env.scope.kind = .function := by rfl) (hl : env.kindOf x = some .local := by rfl) (hd : (x == ("__debug__" : Str)) = false := by decide) : wpAny M A (eval (.Name x pos) env) Q E s := wpAny_Name (wpAny_loadName_local hk hl hn hv h) hd
theorem str_eval {M : Model} {A : Around} {E : Value → Shared → Prop} {s : Shared} {env : Env} {m : Str} {j : Nat} {p : Pos} {Q : Value → Shared → Prop} (h : ∀ t tk, Q (.str m t) { s with toks := tk }) : wpAny M A (eval (.Constant (.str m) j p) env) Q E s := by
  exact wpAny_Constant_str (h _ _)
section
variable {prog : Program} {w : World} {A : Around} {R : Result → Shared → Prop} {s : Shared} {K : Frag} {mg mb : Str → Option Value} {C D fI : Addr} {f : Str}
theorem call_bv {u e t0 : Addr} {nm q : Str} {N : Addr} {bs bm : List Value} {hdct : Bool} {sn : List Str} {sub : List Value} {ab : Bool} {col : Option Bool} {dd : Option Addr} {k0 k1 k2 k3 k5 : Option Value} {rest : List Value} {Q : Value → Shared → Prop} {E : Value → Shared → Prop} {h : Heap} {g : Array GenState} {d : Drawn} {t : Nat} {os : OsState}
    (hC : h.get? C = some (excClassObj nm q C N bs bm hdct sn sub ab col dd k0 k1 k2 k3 k5 "ValueError.__new__")) (he : h.get? e = some (HandSPX.excO C t0)) (hu : h.get? u = some (kxs_mw "ValueError.__init__" e)) (hrest : rest.length ≤ sizeLine)
    (hq : ∀ h' t1, (∀ b o, b ≠ e → h.get? b = some o → h'.get? b = some o) → h'.get? e = some (HandSPX.excO C t1) → Q .none ⟨h', g, d, t, os⟩) :
    wpAny (model prog w) A (call (.ref u) rest) Q E ⟨h, g, d, t, os⟩ := by
  refine wpAny_call (codeAny_of_tree ?_)
  show wpAny _ A.in1 (callAny (.ref u) ⟨rest, []⟩) _ _ _
  simp only [callAny]
  refine wpAny_bind (wpAny_load hu ?_)
  simp only [kxs_mw, show (Value.type "method-wrapper" == Value.type "method" || Value.type "method-wrapper" == Value.type "builtin_function_or_method" || Value.type "method-wrapper" == Value.type "method-wrapper") = true by decide, if_true]
  refine KFB.if_so (by decide) ?_
  refine wpAny_bind (check_bound_init F.excBase_ValueError.toExcCallFacts hC he rfl ?_)
  refine wpAny_bind (wpAny_pure (wpAny_pure ?_))
  refine ⟨plainId_quiet F.excBase_ValueError.init.plain _, codeAny_builtin F.excBase_ValueError.initEntry ?_⟩
  exact exc_init_tree (cls := .ref C) (t0 := t0) (dv := none) (c2 := .none) (c3 := .none) (b4 := .bool false) he hrest fun h' k e' _ => hq h' _ k e'
/-- what __init__ leaves of a fresh exception at x -/
structure InitEnd (h h' : Heap) (x C dx t1 : Addr) (f : Str) (v : Value) : Prop where
  keep : ∀ b o, b ≠ x → h.get? b = some o → h'.get? b = some o
  obj : h'.get? x = some { cls := .ref C, dict := some dx, data := .fields #[.ref t1, .none, .none, .none, .bool false, .none] }
  dbig : h.objs.size ≤ dx
  dne : dx ≠ x
  ns : h'.Ns1 dx (fun y => if y = f then some v else none)
theorem own_init (T : XmC prog K C D fI f) {x t0 : Addr} {v : Value} (X : K.In s.heap) (hlim : s.heap.NoLimit) (hg : s.heap.Ns mainGlobals mg) (hb : s.heap.Ns builtinsNs mb) (hms : mg "super" = none) (hbs : mb "super" = bootBuiltins "super")
    (hx : s.heap.get? x = some (HandSPX.excO C t0)) (hnx : K.lookup x = none) (hroom : A.depth < recursionLimit)
    (hq : ∀ h' tk dx t1, InitEnd s.heap h' x C dx t1 f v → R (.ok (.ret .none)) { s with heap := h', toks := tk }) :
    codeAny (model prog w) A (.call (.ref fI) ⟨[.ref x, v], []⟩) R s := by
  obtain ⟨cc, cda, oc, doc, pm, ct, od, an, osl, qual, msg, j, p0, p1, p2, p3, p4, p5, q1, q2, q3, q4, r1, r2, hf, hcd, hpos, ⟨ccl, cdd, vs, ccs, file, tf, hcode, hvs, hfile⟩, ⟨cl, cld, csl, hcc⟩⟩ := T.fn
  obtain ⟨nm, q, N, bs, bm, sn, sub, ab, col, dd, k0, k1, k2, k3, k5, hC, hbm⟩ := T.cls
  obtain ⟨cdD, hD⟩ := T.clD
  have nf := T.nf
  have hcl : clsIn K C = some { name := nm, bases := bs, mro := .ref C :: bm, ns := N, qualname := q, hasDict := true, slotNames := sn, subclasses := sub, abstract := ab, collection := col, hasDel := false } := by unfold clsIn; rw [hC] <;> rfl
  rcases nf with rfl | rfl | rfl
  all_goals
    refine ks_codeAny_call_defAt (binds := [("self", .ref x), (_, v)]) hroom (X _ _ hf) rfl hlim (codeRec_of X hcd) rfl (T.bd qual msg j p0 p1 p2 p3 p4 p5 q1 q2 q3 q4 r1 r2 doc pm ct an cc cda s (.ref x) v) (by show ∀ y ∈ (xS _).names, y.2 ≠ .cell; decide) (fun y hy => ?_) (fun h₁ hns hk₁ => ?_)
    · rcases List.mem_cons.mp hy with rfl | hy
      · rfl
      · rw [List.mem_singleton.mp hy]
        rfl
    have X₁ : K.In h₁ := X.keeps hk₁
    have hx₁ := hk₁ _ _ hx
    have hxL : s.heap.objs.size ≠ x := Nat.ne_of_gt (Heap.lt_size hx)
    have z0 : s.heap.objs.size < h₁.objs.size := hns.lt
    refine ks_wpAt_execs_cons (ks_wpAt_Expr_any (ks_wpAt_MethodCall ?_ (eval_meth hpos)))
    -- super()
    refine ks_wpAt_super_base rfl rfl (by decide +kernel) rfl (X₁ _ _ hf) rfl rfl rfl (X₁ _ _ hcode) rfl hvs hfile T.top ?_
    refine ks_loadName_global rfl rfl (loadGlobal_builtin (hg.keeps hk₁) hms (hb.keeps hk₁) (hbs.trans (by first | rfl | decide +kernel)) ⟨rfl, ?_⟩)
    refine wpAny_loadName_free rfl rfl rfl ⟨_, X₁ _ _ hcc, rfl⟩ ?_
    refine wpAny_loadName_local (v := .ref x) rfl rfl hns (by first | rfl | with_unfolding_all rfl | kernel_rfl) ?_
    obtain ⟨oD, hD1, hD2⟩ := cls_at X₁ hD
    refine ks_wpAny_isType_cls hD1 hD2 ⟨rfl, ?_⟩
    refine ks_wpAny_call_super hD1 hD2 hx₁ rfl (fun c e => by cases e) (looks_mroIn X₁ T.subD) (fun h₂ e k => ?_)
    -- .__init__
    have X₂ : K.In h₂ := X₁.keeps k
    have I₂ : InstAt h₂ x (HandSPX.excO C t0) C none := ⟨k _ _ hx₁, rfl, rfl, trivial⟩
    have hmro := looks_clsIn (M := model prog w) X₂ hcl
    have hsup := T.sup
    unfold ks_superIn at hsup
    rw [hcl] at hsup
    refine kxs_getMethod kxs_ValueError e (looks_opaque X₂ T.thi) (l₀ := .ref C :: bm) (fun A Q E s k q => wpAny_bind (hmro A _ E s k (wpAny_pure q))) rfl X₂ hsup (I₂.type.andThen (looks_subIn X₂ T.vC)) (ks_ne X₂ I₂ hcl) (by decide +kernel) ?_
    refine kxs_callWith (i := "ValueError.__init__") (x := x) rfl ?_
    refine evalArgs_plain (spliced1 (str_eval fun tok tk => ?_))
    have u2 : (h₂.push (kxs_mw "ValueError.__init__" x)).get? h₂.objs.size = some (kxs_mw "ValueError.__init__" x) := Heap.get?_push_at rfl rfl
    refine ⟨u2, ?_⟩
    refine call_bv (X₂.keeps (fun b o q => Heap.get?_push_of_some _ q) _ _ hC) (Heap.get?_push_of_some _ (k _ _ hx₁)) u2 (by rw [sizeLine_eq]; exact (by decide : 1 ≤ 16777216)) fun h₃ t1 k₃ e₃ => ?_
    have hk₃ : ∀ b o, b ≠ x → s.heap.get? b = some o → h₃.get? b = some o := fun b o hb q => k₃ b o hb (Heap.get?_push_of_some _ (k _ _ (hk₁ _ _ q)))
    have X₃ : K.In h₃ := kept_but X₂ hnx fun b o hb q => k₃ b o hb (Heap.get?_push_of_some _ q)
    have hn₃ : h₃.Ns s.heap.objs.size _ := hns.at (fun o q => k₃ _ _ hxL (Heap.get?_push_of_some _ (k _ _ q)))
    show wpAt _ _ _ (execs _ _) _ _ _
    refine ks_wpAt_execs_cons (ks_wpAt_Assign_Attr ?_)
    refine wpAt_of_wpAny (ldX (v := v) hn₃ (by first | rfl | with_unfolding_all rfl | kernel_rfl) ?_)
    refine ldX (v := .ref x) hn₃ (by first | rfl | with_unfolding_all rfl | kernel_rfl) ?_
    refine set_plain X₃ (ox := HandSPX.excO C t1) (od := none) ⟨e₃, rfl, rfl, trivial⟩ T.sa ?_
    refine HandSPX.exc_osa X₃ e₃ hcl (show HandSPX.refsVE (.ref C :: bm) = true from hbm) rfl T.noF (fun h₄ tk₄ dx k₄ dn dne hx₄ hn₄ => ?_)
    have z2 : s.heap.objs.size ≤ dx := by
      obtain ⟨oL, _, _, hL, _⟩ := hn₃
      exact Nat.le_of_lt (Nat.lt_of_lt_of_le (Heap.lt_size hL) dn)
    exact wpAt_of_wpAny (wpAny_execs_nil (hq h₄ tk₄ dx t1 ⟨fun b o hb q => k₄ b o hb (hk₃ b o hb q), hx₄, z2, dne, hn₄⟩))
/-- a made one -/
structure OwnMade (h h' : Heap) (e C d : Addr) (f : Str) (v : Value) : Prop where
  keep : ∀ b o, h.get? b = some o → h'.get? b = some o
  new : h.objs.size ≤ e
  obj : ∃ oe vs, h'.get? e = some oe ∧ oe.cls = .ref C ∧ oe.dict = some d ∧ oe.data = .fields vs ∧ vs[1]? = some .none ∧ vs[2]? = some .none
  dbig : h.objs.size ≤ d
  dne : d ≠ e
  ns : h'.Ns1 d (fun y => if y = f then some v else none)
theorem own_made (T : XmC prog K C D fI f) {v : Value} (X : K.In s.heap) (hlim : s.heap.NoLimit) (hg : s.heap.Ns mainGlobals mg) (hb : s.heap.Ns builtinsNs mb) (hms : mg "super" = none) (hbs : mb "super" = bootBuiltins "super") (hroom : A.depth + 1 < recursionLimit)
    (hq : ∀ h' tk e d, OwnMade s.heap h' e C d f v → R (.ok (.ret (.ref e))) { s with heap := h', toks := tk }) :
    codeAny (model prog w) A (.call (.ref C) ⟨[v], []⟩) R s := by
  obtain ⟨nm, q, N, bs, bm, sn, sub, ab, col, dd, k0, k1, k2, k3, k5, hC, hbm⟩ := T.cls
  obtain ⟨hp, g, dr, tk, os⟩ := s
  have k : ∀ b o, hp.get? b = some o → ((hp.push (kdv_tup [v])).push (HandSPX.excO C hp.objs.size)).get? b = some o := fun b o e => Heap.get?_push_of_some _ (Heap.get?_push_of_some _ e)
  have hget : ((hp.push (kdv_tup [v])).push (HandSPX.excO C hp.objs.size)).get? (hp.objs.size + 1) = some (HandSPX.excO C hp.objs.size) := by heap_get
  have hnx : K.lookup (hp.objs.size + 1) = none := by
    cases e : K.lookup (hp.objs.size + 1) with
    | none => rfl
    | some o =>
      have z : hp.get? (hp.objs.size + 1) = some o := X _ _ e
      exact absurd (Nat.lt_of_succ_lt (Heap.lt_size z)) (Nat.lt_irrefl _)
  refine HandSPX.call_own F.excBase_ValueError (fun X => HandSPX.refsVE_contains X bm hbm) (X _ _ hC) (looks_findIn X T.iC) (fun self => bind_fn X self T.tI) (by rw [sizeLine_eq]; exact (by decide : 1 ≤ 16777216)) ?_
  refine own_init (s := ⟨(hp.push (kdv_tup [v])).push (HandSPX.excO C hp.objs.size), g, dr, tk, os⟩) T (X.keeps k) (hlim.keeps k) (hg.keeps k) (hb.keeps k) hms hbs hget hnx ?_ fun h' tk' dx t1 ⟨k', hx, dn, dne, hns⟩ => ?_
  · show A.depth + 1 < recursionLimit
    exact hroom
  · have old : ∀ b o, hp.get? b = some o → h'.get? b = some o := fun b o e => k' b o (Nat.ne_of_lt (Nat.lt_succ_of_lt (Heap.lt_size e))) (k b o e)
    have z : hp.objs.size + 1 + 1 ≤ dx := by
      first
        | (simpa only [Heap.size_push] using dn)
        | exact dn
        | (have q := dn; rw [Heap.size_push, Heap.size_push] at q; exact q)
    exact ⟨rfl, hq h' tk' (hp.objs.size + 1) dx ⟨old, Nat.le_succ _, ⟨_, _, hx, rfl, rfl, rfl, rfl, rfl⟩, Nat.le_trans (Nat.le_trans (Nat.le_succ _) (Nat.le_succ _)) z, dne, hns⟩⟩
end
end XM
end PySem

set_option Elab.async false
set_option linter.all false
set_option maxRecDepth 100000
set_option maxHeartbeats 4000000
namespace L2N
open PySem PySem.Spec PyProof.Rows L2
theorem relO_one {f : Str} {v : V} {v' : Value} (r : RelV v v') (g : Str) : RelO (List.lookup g [(f, v)]) (if g = f then some v' else none) := by
  by_cases hw : g = f
  · subst hw
    rw [if_pos rfl]
    have q : List.lookup g [(g, v)] = some v := by simp [List.lookup]
    rw [q]
    exact r
  · rw [if_neg hw]
    have qw : (g == f) = false := by simpa using hw
    have q2 : List.lookup g [(f, v)] = none := by simp [List.lookup, qw]
    rw [q2]
    trivial
section
variable {X : Cx} {C D fI : Addr} {f : Str}
/-- C(e), C's __init__ stores the field f -/
def tMkX (C : Addr) (f : Str) (ta : TA) : St → Hp → XK → Prop := fun σ H Q => ta σ H fun vs H1 => ∃ v, vs = [v] ∧ ∀ d, H1 d = none → Q (.ref C) (some d) (upd H1 d (.xd [(f, v)]))
theorem pmk_xm {x : Str} {a : Expr} {ta : TA} {p pos : Pos} {k : Nat} (T : PySem.XM.XmC X.prog X.K C D fI f) (hr : Room k X.A) (gC : X.mg x = some (.ref C)) (gS : X.mg "super" = none) (ha : PA X [a] ta) (hg : Gl X x := by rfl) (hdb : (x == ("__debug__" : Str)) = false := by decide)
    (he : starEach (a :: []) X.env = (false, eval a X.env) :: starEach [] X.env := by rfl) (hpl : (backTo pos (starEach [] X.env)).any (·.1) = false := by rfl) :
    PMk X (.Call (.Name x p) [a] [] pos) (tMkX C f ta) := by
  intro pins s σ H Q I h
  refine wpAny_Call_Name_kw (ld_glob I hg gC ?_ hdb)
  refine PySem.W.callWith_K (h₀ := X.base) I.ok.mod.kin T.kC (thn (ha.run pos pins s σ H _ I h) fun us s1 hh => ?_) he hpl
  obtain ⟨vs, H1, I1, r1, v, ev, q1⟩ := hh
  subst ev
  refine ⟨I1.kIn, ?_⟩
  cases r1 with
  | cons rv rn =>
    rename_i v' us'
    cases rn
    show wpAny _ _ (call (.ref C) [v']) _ _ _
    have hlim := I1.nolimit
    obtain ⟨mb, hb1, hb2⟩ := I1.mod.blt
    have hb3 := hb1.keeps I1.bk
    have hg3 := I1.mod.glob.keeps I1.bk
    have hbs := hb2 "super" (by decide)
    obtain ⟨hp, g, dr, tk, os⟩ := s1
    refine wpAny_call (PySem.XM.own_made T I1.kIn hlim hg3 hb3 gS hbs (by have := hr.dp; omega) fun h' tk' e d M => ?_)
    show MkP X pins σ Q (.ref e) ⟨h', g, dr, tk', os⟩
    obtain ⟨oe, fv, hoe, hc, hd, hdat, h1, h2⟩ := M.obj
    have hns := M.ns
    obtain ⟨G', g1, g2⟩ := restrict h' fun b => decide (b ≠ e)
    have gk : ∀ b, b ≠ e → G'.get? b = h'.get? b := fun b hb => g1 b (decide_eq_true hb)
    have ge : G'.get? e = none := g2 e (by simp)
    have old : ∀ b o, hp.get? b = some o → G'.get? b = some o := fun b o q => (gk b (Nat.ne_of_lt (Nat.lt_of_lt_of_le (Heap.lt_size q) M.new))).trans (M.keep b o q)
    have ob : ObjOk X.prog X.w (upd H1 d (.xd [(f, v)])) G' d (.xd [(f, v)]) :=
      ⟨_, hns.at (fun o q => (gk d M.dne).trans q), fun g => relO_one rv g⟩
    have J : Inv X pins σ (upd H1 d (.xd [(f, v)])) ⟨G', g, dr, tk', os⟩ := I1.laid (t' := tk') old M.dbig ob
    refine ⟨e, oe, fv, ⟨G', g, dr, tk', os⟩, _, .ref C, some d, rfl, J, fun b o q => ?_, ge, hoe, ⟨hc, hd, fun vs e => ?_⟩, hdat, h1, ?_, rfl, I1.bare, raises_own T.exC T.tyC, q1 d (I1.hok.fresh M.dbig)⟩
    · by_cases hb : b = e
      · have q' : G'.get? b = some o := q
        rw [hb, ge] at q'; cases q'
      · exact (gk b hb).symm.trans q
    · rw [hdat] at e
      cases e
      exact h2
    · rw [upd_ne (Ne.symm M.dne)]
      exact I1.hok.fresh M.new
end
/-! ### several except clauses with names -/
inductive HdsA (X : Cx) : List ExceptHandler → List (Value × Nat × (Addr → Value → Option Addr → TS)) → Prop
  | nil : HdsA X [] []
  | cons {x n : Str} {c : Value} {i : Nat} {ts : Addr → Value → Option Addr → TS} {b₀ : Stmt} {suite : List Stmt} {np pos' : Pos} {hds : List ExceptHandler} {l : List (Value × Nat × (Addr → Value → Option Addr → TS))} (hc : Names X x c) (hi : X.N[i]? = some n) (hln : X.env.kindOf n = some .local)
      (hsu : ∀ (a : Addr) (oe : Obj) (cls : Value) (d : Option Addr) (pn : List (Addr × Obj)), Zn cls d oe → (∃ vs, oe.data = .fields vs) → PSs (X.suite a ((a, oe) :: pn)) (b₀ :: suite) (ts a cls d)) (r : HdsA X hds l) :
      HdsA X (.ExceptHandler (some (.Name x np)) (some n) (b₀ :: suite) pos' :: hds) ((c, i, ts) :: l)
/-- what the clauses wish of an exception of the body, one after the other -/
def wManyA (K : PySem.W.Frag) (Wout : WX) (D : Ends) : List (Value × Nat × (Addr → Value → Option Addr → TS)) → WX
  | [] => Wout
  | (c, i, ts) :: r => fun cls d σ H => ∃ b, PySem.W.exmOne K cls c = some b ∧ (b = true → ∀ a, H a = none → ts a cls d { nx := fun σ' H' => D.nx (σ'.set i none) H', rt := D.rt, bk := fun σ' H' => D.bk (σ'.set i none) H', ct := fun σ' H' => D.ct (σ'.set i none) H' } (σ.set i (some (.ref a))) H) ∧ (b = false → wManyA K Wout D r cls d σ H)
section
variable {X : Cx} {body : List Stmt} {h₀ : ExceptHandler} {hds : List ExceptHandler} {l : List (Value × Nat × (Addr → Value → Option Addr → TS))} {pos : Pos} {tb : WX → TS} {Wout : WX}
theorem ps_try_manyA (hs : X.stack = X.env :: X.outer) (hf : X.env.frame = some X.env.locals) (hN : X.N.Nodup) (tk : Takes X Wout)
    (hb : ∀ (W : WX) (pn : List (Addr × Obj)) (xe : Value → Shared → Prop), Takes (X.tr pn xe) W → PassesOwn (model X.prog X.w) X.A X.env xe → PSs (X.tr pn xe) body (tb W))
    (hh : HdsA X (h₀ :: hds) l) : PS X (.Try body (h₀ :: hds) [] [] pos) (fun D σ H => tb (wManyA X.K Wout D l) D σ H) := by
  refine ⟨fun pins s σ H D I h => ?_⟩
  have ok := I.ok
  have hfr : X.A.frames = some (X.env :: X.outer) := by rw [ok.frames, hs]
  refine wpAny_Try_except ?_
  refine wpAny_mono ((hb (wManyA X.K Wout D l) (X.pn ++ pins) (fun e s₁ => wpAny (model X.prog X.w) X.A (noteFrame e X.env) (fun _ s₂ => wpAny (model X.prog X.w) X.A (setFlight e none) (fun _ s₃ =>
    wpAny (model X.prog X.w) X.A (handleBy e X.env (h₀ :: hds)) (SP X pins D) X.xe s₃) X.xe s₂) X.xe s₁) (fun u s' xx => ?_) PassesOwn.looking).run [] s σ H D (I.toTry _) h) (fun f s1 hsp => ?_) (fun e s1 he => he)
  · -- the catch
    obtain ⟨a, B, sI, pins', σ', H', cls, d, rfl, J', nb, up, sky, na, os, ag, w⟩ := xx
    have J : Inv X pins σ' H' sI := J'.ofTry ok
    have sky' : Sky B (X.env :: X.outer) a (Zn cls d) X.env.locals s'.heap := by rw [← hs]; exact sky
    show wpAny (model X.prog X.w) X.A (noteFrame (.ref a) X.env) _ _ _
    refine Sky.land Zn.steady hfr hf sky' fun h3 fl3 up3 => ?_
    have J3 : Inv X pins σ' H' { s' with heap := h3 } := J.landed nb fl3.1 (up.trans up3) os ag
    obtain ⟨oe3, vs3, he3, hz3, hd3⟩ := fl3.there
    have notFr : ∀ {h : Heap} {o : Obj} {vs : Array Value}, h.FunFrames B (X.env :: X.outer) → h.get? a = some o → o.data = .fields vs → a ∉ frs (X.env :: X.outer) := fun {h o vs} ff e dd hm => by
      obtain ⟨_, o', e', hnf⟩ := ff.mem hm
      rw [e] at e'; cases e'
      exact hnf _ dd
    have nfr := notFr fl3.2.2.1 he3 hd3
    have nL : a ≠ X.env.locals := fun z => nfr (List.mem_filterMap.mpr ⟨X.env, List.mem_cons_self, by rw [hf, z]⟩)
    have nF : a ∉ X.fs := fun hm => by
      obtain ⟨e, he, q⟩ := List.mem_filterMap.mp hm
      exact nfr (List.mem_filterMap.mpr ⟨e, List.mem_cons_of_mem _ he, q⟩)
    have S3 := J3.suite he3 hd3 na nL nF
    have go : ∀ {hds' : List ExceptHandler} {l' : List (Value × Nat × (Addr → Value → Option Addr → TS))}, HdsA X hds' l' → wManyA X.K Wout D l' cls d σ' H' →
        wpAny (model X.prog X.w) X.A (handleBy (.ref a) X.env hds') (SP X pins D) X.xe { s' with heap := h3 } := by
      intro hds' l' hk
      induction hk with
      | nil =>
        intro w
        refine wpAny_handleBy_nil ?_
        obtain ⟨k1, k2, k3, oe, vs, T, oT, ts', he, hz, hd, h1, hr⟩ := id fl3
        unfold PySem.passOn
        refine wpAny_bind (wpAny_field he hd h1 ?_)
        rw [if_neg (show ¬ ((Value.ref T == Value.none) = true) from by simp)]
        have fin : wpAny (model X.prog X.w) X.A (setFlight (.ref a) X.env.frame) (fun _ s4 => wpAny (model X.prog X.w) X.A (throw (.ref a) : Sem Flow) (SP X pins D) X.xe s4) X.xe { s' with heap := h3 } := by
          rw [hf]
          refine HandSPX.setFlight_upZ fl3 fun h4 hh4 up4 => wpAny_throw (tk _ _ ?_)
          exact ⟨a, B, sI, pins, σ', H', cls, d, rfl, J, nb, (up.trans up3).trans up4, .inr (.inr (by rw [hs]; exact hh4)), na, os, ag, w⟩
        first
          | exact wpAny_bind (wpAny_pure (wpAny_bind fin))
          | exact wpAny_bind fin
      | @cons x n c i ts b₀ suite np pos' hds2 l2 hc hi hln hsu r ih =>
        intro w
        have hloc : Loc X.env.scope n := .inl hln
        obtain ⟨b, hb1, hyes, hno⟩ := w
        refine wpAny_handleBy_cons (codeAny_handlers_test ?_) (by intro q; cases q)
        have LT : PySem.W.Looks (model X.prog X.w) h3 (typeOf (.ref a)) cls := fun A Q E s k q => wpAny_typeOf_ref (k _ _ he3) (by rw [hz3.1]; exact q)
        have LM := PySem.W.exm_one (M := model X.prog X.w) (J3.kIn) LT hb1
        have test : ∀ {Q : Value → Shared → Prop} {E : Value → Shared → Prop}, Q c { s' with heap := h3 } → wpAny (model X.prog X.w) (X.A.mark (some (.ref a))) (eval (.Name x np) X.env) Q E { s' with heap := h3 } := fun {Q E} q => by
          obtain ⟨hg, hdbg, hm | ⟨hm, hv, hnn⟩⟩ := hc
          · exact ld_glob (X := X.suite a ((a, oe3) :: (X.pn ++ pins))) S3 hg hm q hdbg
          · exact ld_blt (X := X.suite a ((a, oe3) :: (X.pn ++ pins))) S3 hg hm hv q hnn hdbg
        refine test (LM.here ?_)
        cases b with
        | true =>
          refine codeAny_handlers_suite_as ?_
          refine HandSPX.lands_againZ fl3 fun h4 fl4 up4 => ?_
          have J4 : Inv X pins σ' H' { s' with heap := h4 } := J.landed nb fl4.1 ((up.trans up3).trans up4) os ag
          obtain ⟨oe4, vs4, he4, hz4, hd4⟩ := fl4.there
          have S4 := J4.suite he4 hd4 na nL nF
          refine store_ok (X := X.suite a ((a, oe4) :: (X.pn ++ pins))) (v := .ref a) S4 hN hi hloc rfl (fun s5 S5 => ?_) (.inr hln)
          refine wpAny_mono ((hsu a oe4 cls d (X.pn ++ pins) hz4 ⟨_, hd4⟩).run [] s5 _ H' _ S5 (hyes rfl a na)) (fun f s6 hsp => ?_) (fun _ _ z => False.elim z)
          have end_ : ∀ {σ6 : St} {H6 : Hp} {Q : Shared → Prop}, Inv (X.suite a ((a, oe4) :: (X.pn ++ pins))) [] σ6 H6 s6 → (∀ s7, Inv X pins (σ6.set i none) H6 s7 → Q s7) →
              wpAny (model X.prog X.w) X.A (do bindName X.env n .none; unbindBehindTheSuite X.env n pos') (fun _ s7 => Q s7) X.xe s6 := fun {σ6 H6 Q} S6 hq => gone_ok (S6.unsuite ok) hN hi hln hq
          cases f with
          | next =>
            obtain ⟨σ6, H6, S6, q6⟩ := hsp
            exact end_ S6 fun s7 J7 => ⟨_, _, J7, q6⟩
          | brk =>
            obtain ⟨σ6, H6, S6, q6⟩ := hsp
            exact end_ S6 fun s7 J7 => ⟨_, _, J7, q6⟩
          | cont =>
            obtain ⟨σ6, H6, S6, q6⟩ := hsp
            exact end_ S6 fun s7 J7 => ⟨_, _, J7, q6⟩
          | ret u =>
            obtain ⟨v6, σ6, H6, S6, r6, q6⟩ := hsp
            exact end_ S6 fun s7 J7 => ⟨_, _, _, J7, r6, q6⟩
        | false =>
          show wpAny _ X.A (handleBy (.ref a) X.env hds2) _ _ _
          exact ih (hno rfl)
    exact go hh w
  · cases f with
    | next =>
      obtain ⟨σ', H', J', q⟩ := hsp
      exact wpAny_execs_nil ⟨σ', H', J'.ofTry ok, q⟩
    | brk =>
      obtain ⟨σ', H', J', q⟩ := hsp
      exact ⟨σ', H', J'.ofTry ok, q⟩
    | cont =>
      obtain ⟨σ', H', J', q⟩ := hsp
      exact ⟨σ', H', J'.ofTry ok, q⟩
    | ret u =>
      obtain ⟨v, σ', H', J', r, q⟩ := hsp
      exact ⟨v, σ', H', J'.ofTry ok, r, q⟩
end
end L2N

set_option Elab.async false
set_option linter.all false
set_option maxRecDepth 100000
set_option maxHeartbeats 4000000
namespace L2E
open PySem PySem.Spec PyProof.Rows L2 L2H
open L2N (Zn)
abbrev SpE := Addr → Value → Option Addr → Sp
/-- a def that is called with the exception that an except suite holds -/
structure FnE (P : Program) (w : World) (K : PySem.W.Frag) (mg : Str → Option Value) (base : Heap) (k : Nat) (f : Addr) (fd : FuncData) (ps : List Str) (sp : SpE) : Prop where
  len : ∀ a cls d vs H Q E, sp a cls d vs H Q E → vs.length = ps.length
  run : ∀ (A : Around) (outer : List Env) (s : Shared) (H : Hp) (args : Args) (us : List Value) (vs : List V) (Q : VK) (E : XK) (p : Addr × Obj) (cls : Value) (d : Option Addr), RoomH k A → Hot1 A p → Zn cls d p.2 → PinOk outer H s p → Env0 P w K mg base A outer s H → BindsTo s fd args (ps.zip us) → Vals vs us → sp p.1 cls d vs H Q E →
    codeAny (model P w) A (.call (.ref f) args) (CR CX0 outer P w H s Q E) s
theorem fn_ofE {P : Program} {w : World} {K : PySem.W.Frag} {mg : Str → Option Value} {base : Heap} {k : Nat} {f : Addr} {name qual : Str} {params : Arguments} {body : List Stmt} {scope : Scope} {dV kV doc pm cdv ct oc : Value} {an od : Option Addr}
    {osl : Array (Option Value)} {N ps : List Str} {sp : SpE} (lk : K.lookup f = some ⟨oc, od, .func (PySem.W.fnOf name qual params body scope dV kV doc pm an cdv ct), osl⟩) (hcd : PySem.W.codeIn K cdv qual = true) (S : FnScope N ps scope)
    (len : ∀ a cls d vs H Q E, sp a cls d vs H Q E → vs.length = ps.length)
    (hbody : ∀ (A : Around) (outer : List Env) (s : Shared) (H : Hp) (vs : List V) (Q : VK) (E : XK) (p : Addr × Obj) (cls : Value) (d : Option Addr), Hot1 A p → Zn cls d p.2 → RoomH k (A.deeper (envOfC qual scope s.heap.objs.size f cdv)) → sp p.1 cls d vs H Q E →
      ∃ t, PSs (cxH CX0 P w K mg base N qual scope f cdv A outer s H E p) body t ∧ t { nx := fun _ H' => Q .non H', rt := Q } (L2.start N vs) H) :
    FnE P w K mg base (k + 1) f (PySem.W.fnOf name qual params body scope dV kV doc pm an cdv ct) ps sp := by
  refine ⟨len, fun A outer s H args us vs Q E p cls d hr hot hz hpin e0 hb r hsp => ?_⟩
  have hl := len _ _ _ _ _ _ _ hsp
  have KX : K.In s.heap := e0.mod.kin.keeps fun b o e => (e0.bs b o e).1
  have lim : s.heap.NoLimit := e0.mod.nolimit.keeps fun b o e => (e0.bs b o e).1
  have hkind : ∀ y ∈ ps.zip us, scope.names.lookup y.1 = some .local ∨ (scope.names.lookup y.1 = some .cell ∧ ((cellsFrom (s.heap.objs.size + 1) scope.names []).lookup y.1).isSome = true) := fun ⟨n, v⟩ hy => by
    rcases S.par n (List.of_mem_zip hy).1 with q | q
    · exact .inl q
    · exact .inr ⟨q, PySem.W.cellsFrom_some _ _ _ (.inl q)⟩
  refine codeAny_call_function hr.depth (KX _ _ lk) rfl S.co S.gen rfl (PySem.W.codeRec_of KX hcd) (hb _ _ _ _ ?_)
  refine wpAny_newFunctionEnv_cells S.kind hkind fun env he s1 x => ?_
  subst he
  refine ⟨lim.keeps x.toInCall.keep, codeAny_func ?_⟩
  obtain ⟨t, ht, hq⟩ := hbody A outer s H vs Q E p cls d hot hz (hr.deeper _) hsp
  have I : Inv (cxH CX0 P w K mg base N qual scope f cdv A outer s H E p) [] (L2.start N vs) H s1 := inv_startH S hpin e0 hl r x
  refine wpAny_mono (ht.run [] s1 (L2.start N vs) H _ I hq) (fun fl s' hs => ?_) fun e s' hs => hs
  have fin : ∀ {σ' : L2.St} {H' : Hp} {v : V} {u : Value}, Inv (cxH CX0 P w K mg base N qual scope f cdv A outer s H E p) [] σ' H' s' → RelV v u → Q v H' → CE outer P w H s Q u s' :=
    fun {σ' H' v u} J rv q => ⟨v, H', J.os, J.bare, J.base, J.hok, rv, q⟩
  cases fl with
  | ret u =>
    obtain ⟨v, σ', H', J, rv, q⟩ := hs
    exact fin J rv q
  | next =>
    obtain ⟨σ', H', J, q⟩ := hs
    exact fin (v := V.non) (u := Value.none) J rfl q
  | brk =>
    obtain ⟨_, _, _, q⟩ := hs
    exact False.elim q
  | cont =>
    obtain ⟨_, _, _, q⟩ := hs
    exact False.elim q
/-- the call, in the suite -/
def tCallE (sp : SpE) (a : Addr) (cls : Value) (d : Option Addr) (t : TA) : TE := fun σ H Q => t σ H fun vs H1 => sp a cls d vs H1 Q fun _ _ _ => False
section
variable {X : Cx} {a : Addr} {oe : Obj} {cls : Value} {d : Option Addr} {pn : List (Addr × Obj)} {k : Nat} {f : Addr} {fd : FuncData} {ps : List Str} {sp : SpE} {x : Str} {q pos : Pos} {e : Expr} {es : List Expr} {t : TA}
theorem pe_callE (F : FnE X.prog X.w X.K X.mg X.base k f fd ps sp) (hr : RoomH k X.A) (hz : Zn cls d oe) (hf : ∃ vs, oe.data = .fields vs) (hg : Gl (X.suite a ((a, oe) :: pn)) x) (hm : X.mg x = some (.ref f)) (hk : PySem.W.keepIn X.K (.ref f) = true) (hb : Binds X.K fd ps [])
    (ha : PA (X.suite a ((a, oe) :: pn)) (e :: es) t) (hdb : (x == ("__debug__" : Str)) = false := by decide) (he : starEach (e :: es) X.env = (false, eval e X.env) :: starEach es X.env := by rfl) (hpl : (backTo pos (starEach es X.env)).any (·.1) = false := by rfl) :
    PE (X.suite a ((a, oe) :: pn)) (.Call (.Name x q) (e :: es) [] pos) (tCallE sp a cls d t) := by
  refine ⟨fun pins s σ H Q I h => ?_⟩
  refine wpAny_Call_Name_kw (ld_glob I hg hm ?_ hdb)
  refine PySem.W.callWith_K (h₀ := X.base) I.ok.mod.kin hk (thn (ha.run pos pins s σ H _ I h) fun us s1 ⟨vs, H1, I1, r, q⟩ => ⟨I1.kIn, ?_⟩) he hpl
  have hl : us.length = ps.length := by rw [← r.length]; exact F.len _ _ _ _ _ _ _ q
  have b := hb s1 us I1.kIn (by rw [List.append_nil]; exact hl)
  rw [List.append_nil] at b
  have P1 := I1.pin (a, oe) (List.mem_append_left _ List.mem_cons_self)
  have hpin : PinOk X.stack H1 s1 (a, oe) := ⟨P1.1, P1.2.1, fun hm => (List.mem_cons.mp (I1.stkSub a hm)).elim P1.2.2.1 P1.2.2.2.1, P1.2.2.2.2⟩
  obtain ⟨fv, hfv⟩ := hf
  have hot : Hot1 (X.suite a ((a, oe) :: pn)).A (a, oe) := ⟨rfl, fv, hfv, hz.2.2 fv hfv⟩
  refine wpAny_call (codeAny_mono (F.run _ X.stack s1 H1 ⟨us, []⟩ us vs Q (fun _ _ _ => False) (a, oe) cls d ⟨hr.dp, hr.un⟩ hot hz hpin I1.env0 b r q) fun r s' hq => ?_)
  cases r with
  | error e => exact False.elim hq
  | ok fl =>
    cases fl with
    | ret u => exact I1.after hq
    | next => exact False.elim hq
    | brk => exact False.elim hq
    | cont => exact False.elim hq
end
end L2E

set_option Elab.async false
set_option linter.all false
set_option maxRecDepth 100000
set_option maxHeartbeats 4000000
/-! isinstance of an exception that has a dict -/
namespace PySem.W
open PySem PySem.Spec PySem.Calls PyProof.Rows
section
variable {prog : Program} {w : World} {A : Around} {E : Value → Shared → Prop} {s : Shared} {K : Frag} {x D : Addr} {ox : Obj} {od : Option Obj}
theorem xis_data {C : Addr} {name : Str} {a g : Value} (hc : (clsIn K C).isSome = true) (ha : findIn K (.ref C) name = some (some a)) (hg : specialIn K a "__get__" = some (some g)) (ht : takesIn K a = some true) : findObj K C od name = some (.bind g a) := by
  obtain ⟨cd, hc⟩ := Option.isSome_iff_exists.mp hc
  unfold findObj
  rw [hc, Option.bind_some, ha, Option.bind_some]
  simp [hg, ht]
theorem xis_class {Q : Option Value → Shared → Prop} (T : L2.ExcC K D) (X : K.In s.heap) (I : InstAt s.heap x ox D od) (h : Q (some (.ref D)) { s with toks := s.toks + 1 }) : wpAny (model prog w) A (getAttr? (.ref x) "__class__") Q E s := by
  have hf : findObj K D od "__class__" = some (.bind (.builtin "getset_descriptor.__get__") (.builtin "object.__class__")) := xis_data (by obtain ⟨cd, hc, _⟩ := any_some T.hd; rw [hc]; rfl) T.ha T.hn T.ht
  obtain ⟨hp, g, d, t, os⟩ := s
  have La := I.type (M := model prog w)
  have Lb := looks_findIn (M := model prog w) X T.hg
  have Lc := looks_findIn (M := model prog w) X T.hk
  have Ld := looks_find (M := model prog w) X I hf
  have sub : Looks (model prog w) hp (isInstance (.ref x) (.type "BaseException")) true := La.andThen (looks_subIn X T.hs)
  have hx0 : (false && onTheHeap (Value.builtin "BaseException.__getattribute__")) = false := rfl
  have hx2 : (Value.builtin "BaseException.__getattribute__" == Value.builtin "object.__getattribute__") = false := by decide +kernel
  have hx1 : (onTheHeap (Value.ref D) && Value.builtin "BaseException.__getattribute__" == Value.builtin "object.__getattribute__") = false := by rw [hx2]; rfl
  unfold getAttr? getAttrBy? getAttrBy
  refine wpAny_bind (wpAny_mkText (wpAny_bind (wpAny_attempt (wpAny_holding (wpAny_bind (La.at (wpAny_bind (Lb.at ?_))))))))
  show wpAny _ _ (if (onTheHeap (Value.ref D) && Value.builtin "BaseException.__getattribute__" == Value.builtin "object.__getattribute__") = true then _ else _) _ _ _
  rw [hx1, if_neg Bool.false_ne_true]
  unfold getAttrByItsOwn hookBefore
  refine wpAny_bind ?_
  rw [if_pos (show onTheHeap (Value.ref D) = true from rfl)]
  refine Lc.at ?_
  refine wpAny_bind (wpAny_attempt (wpAny_holding ?_))
  unfold callGetattribute
  rw [hx0, if_neg Bool.false_ne_true]
  unfold boundAndCalled
  rw [PySem.F.excAttr_ValueError.ga.bind (.ref x)]
  refine wpAny_bind (wpAny_pure ?_)
  show wpAny _ _ (call (.builtin "BaseException.__getattribute__") [.ref x, .str "__class__" t]) _ _ _
  refine wpAny_call (codeAny_call_builtin PySem.F.excAttr_ValueError.ga.plain PySem.F.entry_bexc_ga ?_)
  refine @check_slot (model prog w) _ _ ⟨hp, g, d, t + 1, os⟩ "BaseException.__getattribute__" "BaseException" "__getattribute__" (.ref x) [.str "__class__" t] [] _ (by decide +kernel) (by decide +kernel) sub (PySem.F.args_bexc_ga (.ref x) (.str "__class__" t)) ?_
  unfold Builtin.«object.__getattribute__»
  refine wpAny_bind (wpAny_of_eq (a := ((Value.ref x : Value), [Value.str "__class__" t])) (by first | rfl | (simp only [slotArgs]; rfl)) ?_)
  refine wpAny_bind (wpAny_pure (wpAny_bind (La.at (wpAny_bind (Ld.at ?_)))))
  show wpAny _ _ (holding [Value.builtin "object.__class__"] (call (.builtin "getset_descriptor.__get__") [.builtin "object.__class__", .ref x, .ref D]) >>= ret) _ _ _
  refine wpAny_bind (wpAny_holding (wpAny_call (class_get (s := ⟨hp, g, d, t + 1, os⟩) (ox := ox) (od := od) X I T.hm ?_)))
  refine wpAny_pure ?_
  show wpAny _ _ (handedOut (.ref D)) _ _ _
  rw [handedOut_of (v := .ref D) rfl]
  first
    | exact wpAny_pure (wpAny_pure h)
    | exact wpAny_pure h
    | exact wpAny_pure (wpAny_bind (wpAny_pure (wpAny_pure h)))
theorem xis_kit (T : L2.ExcC K D) : KitX K (.ref x) (.ref D) (fun h => InstAt h x ox D od) where
  ty := fun _ _ _ I => I.type
  it := fun _ _ X _ => by
    obtain ⟨cdD, hcD, _⟩ := any_some T.hd
    unfold clsIn at hcD
    split at hcD
    · rename_i c' d' cd' sl' ho
      intro A' Q' E' s' k q
      unfold isType loadHead
      exact wpAny_bind (wpAny_loadPart (k _ _ (X _ _ ho)) (wpAny_pure q))
    · cases hcD
  ne := fun h tp dd its n sl X htp => by
    obtain ⟨cdD, hcD, _⟩ := any_some T.hd
    refine Bool.eq_false_iff.mpr fun q => ?_
    have e : D = tp := Value.ref.inj (beq_iff_eq.mp q)
    subst e
    unfold clsIn at hcD
    split at hcD
    · rename_i c' d' cd' sl' ho
      have z := (X _ _ ho).symm.trans htp
      cases z
    · cases hcD
  ca := fun X I k => xis_class T X I k
end
end PySem.W
namespace L2E
open PySem PySem.Spec PyProof.Rows L2 L2H
/-- isinstance(e, c), e the exception that is handled -/
def rIsX (K : PySem.W.Frag) (D a : Addr) (d : Option Addr) : List V → Hp → VK → Prop := fun xs H Q => ∃ (c : V) (cv : Value) (b : Bool), xs = [.ref a, c] ∧ (∀ u, RelV c u → u = cv) ∧ PySem.W.kitOne K (.ref D) cv = some b ∧ (∀ dd, d = some dd → ∃ fs, H dd = some (.xd fs)) ∧ Q (.bl b) H
theorem call_isX {X : Cx} {D : Addr} {d : Option Addr} {p : Addr × Obj} (C : ExcC X.K D) (hz : Zc (.ref D) d p.2) (hf : ∃ vs, p.2.data = .fields vs) (hp : p ∈ X.pn) : CallR X (.builtin "isinstance") (rIsX X.K D p.1 d) := by
  intro pins s σ H xs us Q I r h
  obtain ⟨c, cv, b, rfl, hcv, e, hd, q⟩ := h
  cases r with
  | cons rx rr =>
    cases rr with
    | cons rt rr =>
      cases rr
      cases rx
      have ec := hcv _ rt
      subst ec
      obtain ⟨hget, _⟩ := I.pin p (List.mem_append.mpr (.inl hp))
      obtain ⟨vs, hv⟩ := hf
      obtain ⟨pa, oc, od, oda, osl⟩ := p
      obtain ⟨h1, h2⟩ := hz
      dsimp only at h1 h2 hv hget
      subst h1 h2 hv
      have fin : ∀ oD : Option Obj, PySem.W.InstAt s.heap pa ⟨.ref D, od, .fields vs, osl⟩ D oD → wpAny (model X.prog X.w) X.A (call (.builtin "isinstance") [.ref pa, _]) (EP X pins σ Q) X.xe s := fun oD J =>
        PySem.W.kia_one (PySem.W.xis_kit C) I.kIn J e (fun z => nomatch z) fun tk => ⟨.bl b, H, I.kept (t' := tk) fun _ _ z => z, rfl, q⟩
      cases od with
      | none => exact fin none ⟨hget, rfl, rfl, trivial⟩
      | some dd =>
        obtain ⟨fs, hfs⟩ := hd dd rfl
        have hx : ObjOk X.prog X.w H s.heap dd (.xd fs) := I.hok dd _ hfs
        obtain ⟨mA, hns, hr⟩ := hx
        obtain ⟨oD, ho, hl⟩ := lookIn_ns hns
        exact fin (some oD) ⟨hget, rfl, rfl, ho⟩
end L2E

set_option Elab.async false
set_option linter.all false
set_option maxRecDepth 100000
set_option maxHeartbeats 4000000
/-! a list comprehension over a range, within an except suite's calls (follows HandS.Comp's lc_core, the pins kept) -/
namespace L2E
open PySem PySem.Spec PyProof.Rows L2 L2H
abbrev St := L2.St
abbrev _root_.L2.Cx.blkH (X : Cx) (s : Shared) (H : Hp) (scope : Scope) (cenv : Env) (fp : List Addr) : Cx := { X with s_0 := s, H_0 := H, env := cenv, outer := X.stack, ex := fp, fn := fun x => scope.names.lookup x == some .cell, xe := fun _ _ => False }
section
variable {X : Cx} {pins : List (Addr × Obj)} {σ : St} {H : Hp} {s : Shared}
theorem block_startH {scope : Scope} {own : List (Str × Nat)} {fp : List Addr} (I : Inv X pins σ H s) (ok : BlkOk X.N X.env.scope scope own) (hN : X.N.Nodup) (hfp : ∀ b ∈ fp, FpOk X pins H b ∧ b < s.heap.objs.size) :
    Inv (X.blkH s H scope (compEnvC scope (cellsFrom (s.heap.objs.size + 1) scope.names (cloFrom X.env.cells scope.names [])) s.heap.objs.size X.env) fp) [] (wipe σ (own.map (·.2))) H { s with heap := pushCells (s.heap.push { cls := .type "dict", data := .dict #[] }) scope.names } := by
  have J := block_start I ok hN hfp
  refine ⟨⟨J.ok.mod, J.ok.kind, J.ok.glob, J.ok.blt, J.ok.above, J.ok.inj, J.ok.has, J.ok.cab, J.ok.hd, J.ok.frames, J.ok.stk, J.ok.exf, J.ok.bs, J.ok.bsz, J.ok.noex, J.ok.exfs, J.ok.funs, J.ok.frf⟩, J.os, J.bare, J.base, J.loc, J.cell, J.free, J.freeC, fun p hp => ?_, J.hok, J.len⟩
  have hp' : p ∈ X.pn := (List.mem_append.mp hp).elim id (fun z => absurd z (by simp))
  obtain ⟨h1, h2, h3, h4, h5⟩ := I.pin p (List.mem_append_left _ hp')
  have lt := Heap.lt_size h1
  exact ⟨pushCells_keeps _ _ _ _ (Heap.get?_push_of_some _ h1), h2, Nat.ne_of_lt lt, fun hm => (List.mem_cons.mp (I.stkSub p.1 hm)).elim h3 h4, h5⟩
end
section
variable {X : Cx}
theorem lc_coreH {pins : List (Addr × Obj)} {s : Shared} {σ : St} {H : Hp} {Q : VK} {elt tg iter : Expr} {ifs : List Expr} {scope : Scope} {own : List (Str × Nat)} {pos pos' : Pos} {wi : TI} {g : TG} {tt : TT} {te : TE} {use : Option (Value → Sem Unit)} {Qf : Value → Shared → Prop}
    (hc : HotC X) (hN : X.N.Nodup) (I : Inv X pins σ H s) (hi : PIH X tg iter wi) (ok : BlkOk X.N X.env.scope scope own)
    (hg : ∀ (s : Shared) (H : Hp) (C : Addr) (cl : List (Str × Addr)) (fp : List Addr), PG (X.blkH s H scope (compEnvC scope cl C X.env) fp) tg g) (ht : ∀ (s : Shared) (H : Hp) (C : Addr) (cl : List (Str × Addr)) (fp : List Addr), PTs (X.blkH s H scope (compEnvC scope cl C X.env) fp) ifs tt)
    (he : ∀ (s : Shared) (H : Hp) (C : Addr) (cl : List (Str × Addr)) (fp : List Addr), PE (X.blkH s H scope (compEnvC scope cl C X.env) fp) elt te) (hs : ∀ x, foldedSetIterable iter X.env x = pure x)
    (h : tLc wi g tt te (own.map (·.2)) σ H Q)
    (hRR : ∀ D C s' m H', Inv X pins σ H' s' → Q (.ref D) H' → s'.heap.Ns C m → FpOk X pins H' C → compPost (model X.prog X.w) X.A X.xe use Qf (.ref D) C (.ok .next) s') :
    wpAny (model X.prog X.w) X.A (comprehension (.ListComp elt [⟨tg, iter, ifs, 0⟩] scope pos) scope X.env pos' (newList []) false (eval iter X.env) use) Qf X.xe s := by
  have hfree : ∀ y ∈ scope.names, y.2 = .free → ∃ c, X.env.cells.lookup y.1 = some c := fun y hy e => by
    rcases ok.free y hy e with k | k
    · exact I.ok.has _ (.inl k)
    · exact I.ok.has _ (.inr k)
  refine wpAny_comprehension_free (use := use) rfl hs (closure_ok hfree) ok.kind (fun y hy e => by rw [ok.uniq y hy, e])
    (thn (hi.run pins s σ H _ I h) fun xv s1 hx => thn hx fun itv s2 h2 => ?_)
  obtain ⟨it, fp, tn, J, H2, e, I2, T, st2, f2, q⟩ := h2
  subst e
  refine wpAny_newObj_type (newEnv_comp ?_) (by show 0 ≤ sizeLine; decide)
  generalize hD : s2.heap.objs.size = D
  have hDn : H2 D = none := I2.hok.fresh (Nat.le_of_eq hD)
  obtain ⟨W, ⟨m0, w0⟩, turn⟩ := q D hDn
  -- the new list
  generalize hs3 : ({ s2 with heap := s2.heap.push { cls := .type "list", data := .seq ([] : List Value).toArray } } : Shared) = s3
  have I3 : Inv X pins σ (upd H2 D (.lst [])) s3 := by
    rw [← hs3]
    refine I2.laid (t' := s2.toks) (fun b o e => Heap.get?_push_of_some _ e) (Nat.le_of_eq hD) ⟨Nat.zero_le _, [], 0, .nil, ?_⟩
    rw [← hD]
    exact Heap.get?_push_size _ rfl
  have h3 : s3.heap = s2.heap.push { cls := .type "list", data := .seq ([] : List Value).toArray } := by rw [← hs3]
  have sz : ∀ b ∈ fp, b < s2.heap.objs.size := fun b hb => by
    obtain ⟨o, e, _⟩ := T.obj _ _ st2 b hb
    exact Heap.lt_size e
  have f3 : ∀ b ∈ fp, FpOk X pins (upd H2 D (.lst [])) b ∧ b < s3.heap.objs.size := fun b hb => by
    have hlt := sz b hb
    refine ⟨⟨?_, (f2 b hb).2⟩, by rw [h3, Heap.size_push]; exact Nat.lt_succ_of_lt hlt⟩
    rw [upd_ne (by rw [← hD]; exact Nat.ne_of_lt hlt)]
    exact (f2 b hb).1
  have st3 : tn 0 s3.heap := T.keep _ _ _ st2 fun b _ o e => by rw [h3]; exact Heap.get?_push_of_some _ e
  have I4 := block_startH I3 ok hN f3
  have pg := hg s3 (upd H2 D (.lst [])) s3.heap.objs.size (cellsFrom (s3.heap.objs.size + 1) scope.names (cloFrom X.env.cells scope.names [])) fp
  have pt := ht s3 (upd H2 D (.lst [])) s3.heap.objs.size (cellsFrom (s3.heap.objs.size + 1) scope.names (cloFrom X.env.cells scope.names [])) fp
  have pe := he s3 (upd H2 D (.lst [])) s3.heap.objs.size (cellsFrom (s3.heap.objs.size + 1) scope.names (cloFrom X.env.cells scope.names [])) fp
  show codeAny _ _ (.compStart (.ListComp elt [⟨tg, iter, ifs, 0⟩] scope pos) 0 (.ref it) (.ref D) (compEnvC scope (cellsFrom (s3.heap.objs.size + 1) scope.names (cloFrom X.env.cells scope.names [])) s3.heap.objs.size X.env)) (compPost (model X.prog X.w) X.A X.xe use Qf (.ref D) s3.heap.objs.size) { s3 with heap := pushCells (s3.heap.push { cls := .type "dict", data := .dict #[] }) scope.names }
  have nfp : ∀ b ∈ fp, (upd H2 D (.lst [])) b = none := fun b hb => (f3 b hb).1.1
  generalize hce : compEnvC scope (cellsFrom (s3.heap.objs.size + 1) scope.names (cloFrom X.env.cells scope.names [])) s3.heap.objs.size X.env = ce at I4 pg pt pe ⊢
  have cL : ce.locals = s3.heap.objs.size := by subst hce; rfl
  generalize hH3 : upd H2 D (.lst []) = H3 at I3 I4 pg pt pe w0 nfp f3
  generalize hs4 : ({ s3 with heap := pushCells (s3.heap.push { cls := .type "dict", data := .dict #[] }) scope.names } : Shared) = s4 at I4 ⊢
  have st4 : tn 0 s4.heap := T.keep _ _ _ st3 fun b _ o e => by rw [← hs4]; exact pushCells_keeps _ _ _ _ (Heap.get?_push_of_some _ e)
  have stat : ∀ {σ' : St} {H' : Hp} {s' : Shared}, Inv (X.blkH s3 H3 scope ce fp) [] σ' H' s' → (∀ b ∈ fp, H' b = none) → ∀ b ∈ fp, FpOk (X.blkH s3 H3 scope ce fp) [] H' b := fun {σ' H' s'} I' hn b hb =>
    ⟨hn b hb, (I'.ok.exf b hb).1, I'.ok.exfs b hb, .inl hb, fun x c e => (I'.ok.exf b hb).2 x c e, fun p hp => (f3 b hb).1.2.2.2.2.2 p (List.mem_append_left _ ((List.mem_append.mp hp).elim id (fun z => absurd z (by simp))))⟩
  have loop : codeAny (model X.prog X.w) X.A (.compLoop (.ListComp elt [⟨tg, iter, ifs, 0⟩] scope pos) 0 (.ref it) (.ref D) ce) (compPost (model X.prog X.w) X.A X.xe use Qf (.ref D) s3.heap.objs.size) s4 := by
    refine compLoop_any (fun n s' => ∃ i H', Inv (X.blkH s3 H3 scope ce fp) [] (wipe σ (own.map (·.2))) H' s' ∧ tn i s'.heap ∧ (∀ b ∈ fp, H' b = none) ∧ W i n H') ?_ m0 ⟨0, H3, I4, st4, nfp, w0⟩
    rintro n s5 ⟨i, H5, I5, st5, n5, w5⟩
    rcases turn i n H5 w5 with ⟨stop, qq⟩ | ⟨go, Nx, hNx, step⟩
    · have td := T.done (X.blkH s3 H3 scope ce fp) rfl rfl rfl hc i [] s5 _ H5 (fun _ _ => False) I5 (stat I5 n5) st5 stop
      refine thnF td fun r s6 ⟨hr, I6⟩ => ?_
      subst hr
      -- back in the def's context
      have I7 : Inv X pins σ H5 s6 := I3.call' (ch := fp) I6.os I6.base I6.hok I6.bare fun b hb => ⟨(f3 b hb).1.2.2.2.1, (f3 b hb).1.2.1, (f3 b hb).1.2.2.2.2.1, (f3 b hb).1.2.2.2.2.2⟩
      have nC : H5 s3.heap.objs.size = none := by
        have z : H5 ce.locals = none := I6.free
        rw [cL] at z
        exact z
      obtain ⟨m, hn, _⟩ := I6.loc
      have hn : s6.heap.Ns ce.locals m := hn
      rw [cL] at hn
      exact hRR D s3.heap.objs.size s6 m H5 I7 qq hn (I3.fpOk (Nat.le_refl _) nC)
    · have ti := T.item (X.blkH s3 H3 scope ce fp) rfl rfl rfl hc i [] s5 _ H5 (fun _ _ => False) I5 (stat I5 n5) st5 go
      refine thnF ti fun r s6 ⟨u, hr, h6⟩ => ?_
      subst hr
      refine thnF h6 fun _ s7 ⟨x, H7, I7, r7, y7, st7, n7⟩ => ?_
      have I7' := I7.pinned (stat I7 n7) (T.obj _ _ st7)
      refine thnF (pg.run _ s7 _ H7 x u _ I7' r7 (step x H7 y7)) fun _ s8 ⟨σ8, H8, I8, hw8, q8⟩ => ?_
      refine thnF (pt.run _ s8 σ8 H8 _ I8 q8) fun b s9 ⟨H9, I9, q9⟩ => ?_
      -- the turn's end
      have fin : ∀ {s' : Shared} {H' : Hp}, Inv (X.blkH s3 H3 scope ce fp) ([] ++ pinsAt fp s7.heap) σ8 H' s' → Nx H' → ∃ m, m < n ∧ ∃ i H', Inv (X.blkH s3 H3 scope ce fp) [] (wipe σ (own.map (·.2))) H' s' ∧ tn i s'.heap ∧ (∀ b ∈ fp, H' b = none) ∧ W i m H' := fun {s' H'} I' nx => by
        obtain ⟨m', hm, w'⟩ := hNx H' nx
        have pin' : ∀ b ∈ fp, ∀ o, s7.heap.get? b = some o → s'.heap.get? b = some o ∧ H' b = none := fun b hb o e =>
          let z := I'.pin (b, o) (List.mem_append_right _ (List.mem_append_right _ (mem_pinsAt hb e)))
          ⟨z.1, z.2.1⟩
        have hl : (wipe σ (own.map (·.2))).length = σ8.length := by rw [← hw8, wipe_length]
        refine ⟨m', hm, i + 1, H', (I'.unpinned (pins := [])).weak hl (fun j v e => ?_), T.keep _ _ _ st7 fun b hb o e => (pin' b hb o e).1, fun b hb => ?_, w'⟩
        · rw [← hw8] at e
          exact (wipe_some e).1
        · obtain ⟨o, e, _⟩ := T.obj _ _ st7 b hb
          exact (pin' b hb o e).2
      cases b with
      | false =>
        simp only [Bool.false_eq_true, if_false] at q9 ⊢
        exact fin I9 q9
      | true =>
        simp only [if_true] at q9 ⊢
        refine thnF (pe.run _ s9 σ8 H9 _ I9 q9) fun z s10 ⟨yv, H10, I10, r10, acc, hD10, hz10, nx⟩ => ?_
        exact app_ok (X := X.blkH s3 H3 scope ce fp) I10 hD10 hz10 r10 fun s11 I11 => fin I11 nx
  exact codeAny_compStart_list loop (T.self X.A 0 _ _ _ st4 loop)

/-- as a value -/
theorem pe_lcH {elt tg iter : Expr} {ifs : List Expr} {scope : Scope} {own : List (Str × Nat)} {pos : Pos} {wi : TI} {g : TG} {tt : TT} {te : TE} (hc : HotC X) (hN : X.N.Nodup) (hi : PIH X tg iter wi) (ok : BlkOk X.N X.env.scope scope own)
    (hg : ∀ (s : Shared) (H : Hp) (C : Addr) (cl : List (Str × Addr)) (fp : List Addr), PG (X.blkH s H scope (compEnvC scope cl C X.env) fp) tg g) (ht : ∀ (s : Shared) (H : Hp) (C : Addr) (cl : List (Str × Addr)) (fp : List Addr), PTs (X.blkH s H scope (compEnvC scope cl C X.env) fp) ifs tt)
    (he : ∀ (s : Shared) (H : Hp) (C : Addr) (cl : List (Str × Addr)) (fp : List Addr), PE (X.blkH s H scope (compEnvC scope cl C X.env) fp) elt te) (hs : ∀ x, foldedSetIterable iter X.env x = pure x := by intro _; rfl) :
    PE X (.ListComp elt [⟨tg, iter, ifs, 0⟩] scope pos) (tLc wi g tt te (own.map (·.2))) := by
  refine ⟨fun pins s σ H Q I h => ?_⟩
  rw [eval_ListComp]
  refine lc_coreH hc hN I hi ok hg ht he hs h fun D C s' m H' I' q hn f => ⟨m, hn, fun h'' sb => ?_⟩
  obtain ⟨f0, f1, f2, f3, f4, f5⟩ := f
  exact ⟨.ref D, H', I'.turned (t' := s'.toks) (fun b o hb e => (sb.2 b hb).trans e) f0 f1 f3 f4 f5, rfl, q⟩
end
end L2E

set_option Elab.async false
set_option linter.all false
set_option maxRecDepth 100000
set_option maxHeartbeats 4000000
namespace W8
open PySem L2 L2E
/-- the classes that _law_classes asks about, but the first -/
structure ClsT (mg : Str → Option Value) (c : Nat → Addr) : Prop where
  mToolError : mg "ToolError" = some (.ref (c 1))
  mLettersError : mg "LettersError" = some (.ref (c 2))
  mMixedLetters : mg "MixedLetters" = some (.ref (c 3))
  mTableError : mg "TableError" = some (.ref (c 4))
  mActionError : mg "ActionError" = some (.ref (c 5))
  mLassoError : mg "LassoError" = some (.ref (c 6))
  mLetterError : mg "LetterError" = some (.ref (c 7))
  mStateError : mg "StateError" = some (.ref (c 8))
  mRowError : mg "RowError" = some (.ref (c 9))
  mNotStarFree : mg "NotStarFree" = some (.ref (c 10))
  mTextError : mg "TextError" = some (.ref (c 11))
  mNameFault : mg "NameFault" = some (.ref (c 12))
  mLineError : mg "LineError" = some (.ref (c 13))
  mCountsError : mg "CountsError" = some (.ref (c 14))
  mLimitError : mg "LimitError" = some (.ref (c 15))
  mTooManyStates : mg "TooManyStates" = some (.ref (c 16))
  mTooManyActions : mg "TooManyActions" = some (.ref (c 17))
  mTooManyRows : mg "TooManyRows" = some (.ref (c 18))
def clsNames : List Str := ["ValueError", "ToolError", "LettersError", "MixedLetters", "TableError", "ActionError", "LassoError", "LetterError", "StateError", "RowError", "NotStarFree", "TextError", "NameFault", "LineError", "CountsError", "LimitError", "TooManyStates", "TooManyActions", "TooManyRows"]
def clsVals (c : Nat → Addr) : List Value := [.type "ValueError", .ref (c 1), .ref (c 2), .ref (c 3), .ref (c 4), .ref (c 5), .ref (c 6), .ref (c 7), .ref (c 8), .ref (c 9), .ref (c 10), .ref (c 11), .ref (c 12), .ref (c 13), .ref (c 14), .ref (c 15), .ref (c 16), .ref (c 17), .ref (c 18)]
/-- the exception of the class at D is of these classes -/
def IsOf (K : PySem.W.Frag) (c : Nat → Addr) (D : Addr) (bs : List Bool) : Prop := Paired (fun v b => PySem.W.kitOne K (.ref D) v = some b) (clsVals c) bs
def pick (ns : List Str) (bs : List Bool) : List Str := ((ns.zip bs).filter (·.2)).map (·.1)
abbrev sClasses : Stmt := top 36
theorem scClasses : FnScope ["e", "names", "flags", "k"] ["e"] (defScope sClasses) := ⟨rfl, rfl, rfl, by decide +kernel, rfl, by decide +kernel, by decide +kernel⟩
def spClasses (K : PySem.W.Frag) (c : Nat → Addr) : SpE := fun a cls d vs H Q _ => ∃ (D : Addr) (bs : List Bool), vs = [.ref a] ∧ cls = .ref D ∧ ExcC K D ∧ IsOf K c D bs ∧ (∀ dd, d = some dd → ∃ fs, H dd = some (.xd fs)) ∧
  ∀ l H', Same H H' → H' l = some (.lst ((pick clsNames bs).map V.str)) → Q (.ref l) H'
theorem pick_step {ns : List Str} {bs : List Bool} {i : Nat} {n : Str} {b : Bool} (h1 : ns[i]? = some n) (h2 : bs[i]? = some b) : ((((ns.zip bs).take (i + 1)).filter (·.2)).map (·.1)) = (((ns.zip bs).take i).filter (·.2)).map (·.1) ++ if b then [n] else [] := by
  have e : (ns.zip bs)[i]? = some (n, b) := by rw [List.getElem?_zip_eq_some]; exact ⟨h1, h2⟩
  rw [List.take_add_one, e, List.filter_append, List.map_append]
  cases b <;> rfl
theorem paired_cons {α β : Type} {R : α → β → Prop} {x : α} {xs : List α} {ys : List β} (h : Paired R (x :: xs) ys) : ∃ y zs, ys = y :: zs ∧ R x y ∧ Paired R xs zs := by
  cases h with
  | cons a b => exact ⟨_, _, rfl, a, b⟩
theorem paired_nil {α β : Type} {R : α → β → Prop} {ys : List β} (h : Paired R [] ys) : ys = [] := by
  cases h
  rfl
theorem xd_mono {H H' : Hp} {d : Option Addr} (s : Same H H') (h : ∀ dd, d = some dd → ∃ fs, H dd = some (.xd fs)) : ∀ dd, d = some dd → ∃ fs, H' dd = some (.xd fs) := fun dd e => by
  obtain ⟨fs, q⟩ := h dd e
  exact ⟨fs, s _ _ q⟩
section
variable {P : Program} {w : World} {K : PySem.W.Frag} {mg : Str → Option Value} {base : Heap}
theorem ok_classes {c : Nat → Addr} {f : Addr} {fd : FuncData} (F : Fun K "_law_classes" "_law_classes" sClasses f fd) (T : ClsT mg c) (S : SameT mg) (tv : mg "ValueError" = none) : FnE P w K mg base 1 f fd ["e"] (spClasses K c) := by
  obtain ⟨oc, od, kV, doc, pm, an, cdv, ct, osl, rfl, lk, hcd⟩ := F.ex
  refine fn_ofE lk hcd scClasses (fun a cls d vs H Q E h => ?_) (fun A outer s H vs Q E p cls d hot hz hr h => ?_)
  · obtain ⟨D, bs, rfl, _⟩ := h
    rfl
  obtain ⟨D, bs, rfl, rfl, hD, hbs, hd, q⟩ := h
  unfold IsOf clsVals at hbs
  obtain ⟨b0, bs, rfl, k0, hbs⟩ := paired_cons hbs
  obtain ⟨b1, bs, rfl, k1, hbs⟩ := paired_cons hbs
  obtain ⟨b2, bs, rfl, k2, hbs⟩ := paired_cons hbs
  obtain ⟨b3, bs, rfl, k3, hbs⟩ := paired_cons hbs
  obtain ⟨b4, bs, rfl, k4, hbs⟩ := paired_cons hbs
  obtain ⟨b5, bs, rfl, k5, hbs⟩ := paired_cons hbs
  obtain ⟨b6, bs, rfl, k6, hbs⟩ := paired_cons hbs
  obtain ⟨b7, bs, rfl, k7, hbs⟩ := paired_cons hbs
  obtain ⟨b8, bs, rfl, k8, hbs⟩ := paired_cons hbs
  obtain ⟨b9, bs, rfl, k9, hbs⟩ := paired_cons hbs
  obtain ⟨b10, bs, rfl, k10, hbs⟩ := paired_cons hbs
  obtain ⟨b11, bs, rfl, k11, hbs⟩ := paired_cons hbs
  obtain ⟨b12, bs, rfl, k12, hbs⟩ := paired_cons hbs
  obtain ⟨b13, bs, rfl, k13, hbs⟩ := paired_cons hbs
  obtain ⟨b14, bs, rfl, k14, hbs⟩ := paired_cons hbs
  obtain ⟨b15, bs, rfl, k15, hbs⟩ := paired_cons hbs
  obtain ⟨b16, bs, rfl, k16, hbs⟩ := paired_cons hbs
  obtain ⟨b17, bs, rfl, k17, hbs⟩ := paired_cons hbs
  obtain ⟨b18, bs, rfl, k18, hbs⟩ := paired_cons hbs
  obtain rfl := paired_nil hbs
  obtain ⟨fv, hfv, hctx⟩ := hot.2
  have hc : L2H.HotC (L2H.cxH CX0 P w K mg base ["e", "names", "flags", "k"] "_law_classes" (defScope sClasses) f cdv A outer s H E p) := ⟨p, ⟨hot.1, hot.2⟩, List.mem_cons_self⟩
  have isx : CallR (L2H.cxH CX0 P w K mg base ["e", "names", "flags", "k"] "_law_classes" (defScope sClasses) f cdv A outer s H E p) (.builtin "isinstance") (rIsX K D p.1 d) := call_isX hD hz.zc ⟨fv, hfv⟩ List.mem_cons_self
  refine ⟨_, (pss_cons (ps_set (i := 1) scClasses.nd rfl (Or.inr rfl) (pe_lst (pa_cons pe_str (pa_cons pe_str (pa_cons pe_str (pa_cons pe_str (pa_cons pe_str (pa_cons pe_str (pa_cons pe_str pa_nil)))))))))
    (pss_cons (ps_set (i := 2) scClasses.nd rfl (Or.inr rfl) (pe_lst (pa_cons (pe_callB isx (by rfl) S.isinstance (by decide +kernel) (pa_cons (pv 0) (pa_cons (pe_bltn (v := .ty "ValueError") (by rfl) tv (by decide +kernel) rfl) pa_nil))) (pa_cons (pe_callB isx (by rfl) S.isinstance (by decide +kernel) (pa_cons (pv 0) (pa_cons (pe_glob (v := .ref (c 1)) rfl T.mToolError rfl) pa_nil))) (pa_cons (pe_callB isx (by rfl) S.isinstance (by decide +kernel) (pa_cons (pv 0) (pa_cons (pe_glob (v := .ref (c 2)) rfl T.mLettersError rfl) pa_nil))) pa_nil)))))
    (pss_cons (ps_set (i := 2) scClasses.nd rfl (Or.inr rfl) (pe_op op_cat (pv 2) (pe_lst (pa_cons (pe_callB isx (by rfl) S.isinstance (by decide +kernel) (pa_cons (pv 0) (pa_cons (pe_glob (v := .ref (c 3)) rfl T.mMixedLetters rfl) pa_nil))) (pa_cons (pe_callB isx (by rfl) S.isinstance (by decide +kernel) (pa_cons (pv 0) (pa_cons (pe_glob (v := .ref (c 4)) rfl T.mTableError rfl) pa_nil))) (pa_cons (pe_callB isx (by rfl) S.isinstance (by decide +kernel) (pa_cons (pv 0) (pa_cons (pe_glob (v := .ref (c 5)) rfl T.mActionError rfl) pa_nil))) pa_nil))))))
    (pss_cons (ps_set (i := 2) scClasses.nd rfl (Or.inr rfl) (pe_op op_cat (pv 2) (pe_lst (pa_cons (pe_callB isx (by rfl) S.isinstance (by decide +kernel) (pa_cons (pv 0) (pa_cons (pe_glob (v := .ref (c 6)) rfl T.mLassoError rfl) pa_nil))) pa_nil))))
    (pss_cons (ps_set (i := 1) scClasses.nd rfl (Or.inr rfl) (pe_op op_cat (pv 1) (pe_lst (pa_cons pe_str (pa_cons pe_str (pa_cons pe_str (pa_cons pe_str (pa_cons pe_str (pa_cons pe_str (pa_cons pe_str pa_nil))))))))))
    (pss_cons (ps_set (i := 2) scClasses.nd rfl (Or.inr rfl) (pe_op op_cat (pv 2) (pe_lst (pa_cons (pe_callB isx (by rfl) S.isinstance (by decide +kernel) (pa_cons (pv 0) (pa_cons (pe_glob (v := .ref (c 7)) rfl T.mLetterError rfl) pa_nil))) (pa_cons (pe_callB isx (by rfl) S.isinstance (by decide +kernel) (pa_cons (pv 0) (pa_cons (pe_glob (v := .ref (c 8)) rfl T.mStateError rfl) pa_nil))) (pa_cons (pe_callB isx (by rfl) S.isinstance (by decide +kernel) (pa_cons (pv 0) (pa_cons (pe_glob (v := .ref (c 9)) rfl T.mRowError rfl) pa_nil))) pa_nil))))))
    (pss_cons (ps_set (i := 2) scClasses.nd rfl (Or.inr rfl) (pe_op op_cat (pv 2) (pe_lst (pa_cons (pe_callB isx (by rfl) S.isinstance (by decide +kernel) (pa_cons (pv 0) (pa_cons (pe_glob (v := .ref (c 10)) rfl T.mNotStarFree rfl) pa_nil))) (pa_cons (pe_callB isx (by rfl) S.isinstance (by decide +kernel) (pa_cons (pv 0) (pa_cons (pe_glob (v := .ref (c 11)) rfl T.mTextError rfl) pa_nil))) (pa_cons (pe_callB isx (by rfl) S.isinstance (by decide +kernel) (pa_cons (pv 0) (pa_cons (pe_glob (v := .ref (c 12)) rfl T.mNameFault rfl) pa_nil))) pa_nil))))))
    (pss_cons (ps_set (i := 2) scClasses.nd rfl (Or.inr rfl) (pe_op op_cat (pv 2) (pe_lst (pa_cons (pe_callB isx (by rfl) S.isinstance (by decide +kernel) (pa_cons (pv 0) (pa_cons (pe_glob (v := .ref (c 13)) rfl T.mLineError rfl) pa_nil))) pa_nil))))
    (pss_cons (ps_set (i := 1) scClasses.nd rfl (Or.inr rfl) (pe_op op_cat (pv 1) (pe_lst (pa_cons pe_str (pa_cons pe_str (pa_cons pe_str (pa_cons pe_str (pa_cons pe_str pa_nil))))))))
    (pss_cons (ps_set (i := 2) scClasses.nd rfl (Or.inr rfl) (pe_op op_cat (pv 2) (pe_lst (pa_cons (pe_callB isx (by rfl) S.isinstance (by decide +kernel) (pa_cons (pv 0) (pa_cons (pe_glob (v := .ref (c 14)) rfl T.mCountsError rfl) pa_nil))) (pa_cons (pe_callB isx (by rfl) S.isinstance (by decide +kernel) (pa_cons (pv 0) (pa_cons (pe_glob (v := .ref (c 15)) rfl T.mLimitError rfl) pa_nil))) (pa_cons (pe_callB isx (by rfl) S.isinstance (by decide +kernel) (pa_cons (pv 0) (pa_cons (pe_glob (v := .ref (c 16)) rfl T.mTooManyStates rfl) pa_nil))) pa_nil))))))
    (pss_cons (ps_set (i := 2) scClasses.nd rfl (Or.inr rfl) (pe_op op_cat (pv 2) (pe_lst (pa_cons (pe_callB isx (by rfl) S.isinstance (by decide +kernel) (pa_cons (pv 0) (pa_cons (pe_glob (v := .ref (c 17)) rfl T.mTooManyActions rfl) pa_nil))) (pa_cons (pe_callB isx (by rfl) S.isinstance (by decide +kernel) (pa_cons (pv 0) (pa_cons (pe_glob (v := .ref (c 18)) rfl T.mTooManyRows rfl) pa_nil))) pa_nil)))))
    (pss_one (ps_ret (pe_lcH (own := [("k", 3)]) (g := gName 3) (tt := tTest (tOp (rIxL K) (tVar 2) (tVar 3))) hc scClasses.nd (L2H.pi_range1H (by rfl) S.range (pa_cons (pB1 call_len_seq S.len (pv 1)) pa_nil)) (blkOk_by (own := [("k", 3)]) (N := ["e", "names", "flags", "k"]) (sc := defScope sClasses) (by decide +kernel)) (fun _ _ _ _ _ => (pg_name (i := 3) scClasses.nd rfl (Or.inl rfl))) (fun _ _ _ _ _ => (pts_one (pt_val (pe_ix (r := rIxL K) ix_list (pv 2) (pv 3) (fun _ _ => rfl))))) (fun _ _ _ _ _ => (pe_ix (r := rIxL K) ix_list (pv 1) (pv 3) (fun _ _ => rfl))))))))))))))))), ?_⟩
  refine ⟨by show 7 ≤ sizeLine; decide, fun l0 hl0 => ?_⟩
  generalize eq1 : upd H l0 _ = H1
  have s1 : Same H H1 := eq1 ▸ same_new hl0 _
  have h1 : H1 l0 = some (.lst [.str "ValueError", .str "ToolError", .str "LettersError", .str "MixedLetters", .str "TableError", .str "ActionError", .str "LassoError"]) := eq1 ▸ upd_same
  have t1 : Same H H1 := s1
  clear eq1 hl0
  refine ⟨_, rfl, _, _, _, rfl, (fun _ r => r), k0, (xd_mono t1 hd), _, rfl, _, _, _, rfl, (fun _ r => r), k1, (xd_mono t1 hd), _, rfl, _, _, _, rfl, (fun _ r => r), k2, (xd_mono t1 hd), by show 3 ≤ sizeLine; decide, fun l1 hl1 => ?_⟩
  generalize eq2 : upd H1 l1 _ = H2
  have s2 : Same H1 H2 := eq2 ▸ same_new hl1 _
  have h2 : H2 l1 = some (.lst [.bl b0, .bl b1, .bl b2]) := eq2 ▸ upd_same
  have t2 : Same H H2 := t1.trans s2
  clear eq2 hl1
  have g3 := s2 _ _ h1
  refine ⟨_, rfl, _, rfl, _, _, _, rfl, (fun _ r => r), k3, (xd_mono t2 hd), _, rfl, _, _, _, rfl, (fun _ r => r), k4, (xd_mono t2 hd), _, rfl, _, _, _, rfl, (fun _ r => r), k5, (xd_mono t2 hd), by show 3 ≤ sizeLine; decide, fun l2 hl2 => ?_⟩
  generalize eq4 : upd H2 l2 _ = H4
  have s4 : Same H2 H4 := eq4 ▸ same_new hl2 _
  have h4 : H4 l2 = some (.lst [.bl b3, .bl b4, .bl b5]) := eq4 ▸ upd_same
  have t4 : Same H H4 := t2.trans s4
  clear eq4 hl2
  have g5 := s4 _ _ g3
  have g6 := s4 _ _ h2
  refine ⟨l1, l2, [.bl b0, .bl b1, .bl b2], [.bl b3, .bl b4, .bl b5], rfl, rfl, g6, h4, by show 6 ≤ sizeLine; decide, fun r2 hr2 => ?_⟩
  generalize eq7 : upd H4 r2 _ = H7
  have s7 : Same H4 H7 := eq7 ▸ same_new hr2 _
  have h7 : H7 r2 = some (.lst [.bl b0, .bl b1, .bl b2, .bl b3, .bl b4, .bl b5]) := eq7 ▸ upd_same
  have t7 : Same H H7 := t4.trans s7
  clear eq7 hr2
  have g8 := s7 _ _ g5
  refine ⟨_, rfl, _, rfl, _, _, _, rfl, (fun _ r => r), k6, (xd_mono t7 hd), by show 1 ≤ sizeLine; decide, fun l3 hl3 => ?_⟩
  generalize eq9 : upd H7 l3 _ = H9
  have s9 : Same H7 H9 := eq9 ▸ same_new hl3 _
  have h9 : H9 l3 = some (.lst [.bl b6]) := eq9 ▸ upd_same
  have t9 : Same H H9 := t7.trans s9
  clear eq9 hl3
  have g10 := s9 _ _ g8
  have g11 := s9 _ _ h7
  refine ⟨r2, l3, [.bl b0, .bl b1, .bl b2, .bl b3, .bl b4, .bl b5], [.bl b6], rfl, rfl, g11, h9, by show 7 ≤ sizeLine; decide, fun r3 hr3 => ?_⟩
  generalize eq12 : upd H9 r3 _ = H12
  have s12 : Same H9 H12 := eq12 ▸ same_new hr3 _
  have h12 : H12 r3 = some (.lst [.bl b0, .bl b1, .bl b2, .bl b3, .bl b4, .bl b5, .bl b6]) := eq12 ▸ upd_same
  have t12 : Same H H12 := t9.trans s12
  clear eq12 hr3
  have g13 := s12 _ _ g10
  refine ⟨_, rfl, by show 7 ≤ sizeLine; decide, fun l4 hl4 => ?_⟩
  generalize eq14 : upd H12 l4 _ = H14
  have s14 : Same H12 H14 := eq14 ▸ same_new hl4 _
  have h14 : H14 l4 = some (.lst [.str "LetterError", .str "StateError", .str "RowError", .str "NotStarFree", .str "TextError", .str "NameFault", .str "LineError"]) := eq14 ▸ upd_same
  have t14 : Same H H14 := t12.trans s14
  clear eq14 hl4
  have g15 := s14 _ _ g13
  have g16 := s14 _ _ h12
  refine ⟨l0, l4, [.str "ValueError", .str "ToolError", .str "LettersError", .str "MixedLetters", .str "TableError", .str "ActionError", .str "LassoError"], [.str "LetterError", .str "StateError", .str "RowError", .str "NotStarFree", .str "TextError", .str "NameFault", .str "LineError"], rfl, rfl, g15, h14, by show 14 ≤ sizeLine; decide, fun r4 hr4 => ?_⟩
  generalize eq17 : upd H14 r4 _ = H17
  have s17 : Same H14 H17 := eq17 ▸ same_new hr4 _
  have h17 : H17 r4 = some (.lst [.str "ValueError", .str "ToolError", .str "LettersError", .str "MixedLetters", .str "TableError", .str "ActionError", .str "LassoError", .str "LetterError", .str "StateError", .str "RowError", .str "NotStarFree", .str "TextError", .str "NameFault", .str "LineError"]) := eq17 ▸ upd_same
  have t17 : Same H H17 := t14.trans s17
  clear eq17 hr4
  have g18 := s17 _ _ g16
  refine ⟨_, rfl, _, rfl, _, _, _, rfl, (fun _ r => r), k7, (xd_mono t17 hd), _, rfl, _, _, _, rfl, (fun _ r => r), k8, (xd_mono t17 hd), _, rfl, _, _, _, rfl, (fun _ r => r), k9, (xd_mono t17 hd), by show 3 ≤ sizeLine; decide, fun l5 hl5 => ?_⟩
  generalize eq19 : upd H17 l5 _ = H19
  have s19 : Same H17 H19 := eq19 ▸ same_new hl5 _
  have h19 : H19 l5 = some (.lst [.bl b7, .bl b8, .bl b9]) := eq19 ▸ upd_same
  have t19 : Same H H19 := t17.trans s19
  clear eq19 hl5
  have g20 := s19 _ _ h17
  have g21 := s19 _ _ g18
  refine ⟨r3, l5, [.bl b0, .bl b1, .bl b2, .bl b3, .bl b4, .bl b5, .bl b6], [.bl b7, .bl b8, .bl b9], rfl, rfl, g21, h19, by show 10 ≤ sizeLine; decide, fun r5 hr5 => ?_⟩
  generalize eq22 : upd H19 r5 _ = H22
  have s22 : Same H19 H22 := eq22 ▸ same_new hr5 _
  have h22 : H22 r5 = some (.lst [.bl b0, .bl b1, .bl b2, .bl b3, .bl b4, .bl b5, .bl b6, .bl b7, .bl b8, .bl b9]) := eq22 ▸ upd_same
  have t22 : Same H H22 := t19.trans s22
  clear eq22 hr5
  have g23 := s22 _ _ g20
  refine ⟨_, rfl, _, rfl, _, _, _, rfl, (fun _ r => r), k10, (xd_mono t22 hd), _, rfl, _, _, _, rfl, (fun _ r => r), k11, (xd_mono t22 hd), _, rfl, _, _, _, rfl, (fun _ r => r), k12, (xd_mono t22 hd), by show 3 ≤ sizeLine; decide, fun l6 hl6 => ?_⟩
  generalize eq24 : upd H22 l6 _ = H24
  have s24 : Same H22 H24 := eq24 ▸ same_new hl6 _
  have h24 : H24 l6 = some (.lst [.bl b10, .bl b11, .bl b12]) := eq24 ▸ upd_same
  have t24 : Same H H24 := t22.trans s24
  clear eq24 hl6
  have g25 := s24 _ _ g23
  have g26 := s24 _ _ h22
  refine ⟨r5, l6, [.bl b0, .bl b1, .bl b2, .bl b3, .bl b4, .bl b5, .bl b6, .bl b7, .bl b8, .bl b9], [.bl b10, .bl b11, .bl b12], rfl, rfl, g26, h24, by show 13 ≤ sizeLine; decide, fun r6 hr6 => ?_⟩
  generalize eq27 : upd H24 r6 _ = H27
  have s27 : Same H24 H27 := eq27 ▸ same_new hr6 _
  have h27 : H27 r6 = some (.lst [.bl b0, .bl b1, .bl b2, .bl b3, .bl b4, .bl b5, .bl b6, .bl b7, .bl b8, .bl b9, .bl b10, .bl b11, .bl b12]) := eq27 ▸ upd_same
  have t27 : Same H H27 := t24.trans s27
  clear eq27 hr6
  have g28 := s27 _ _ g25
  refine ⟨_, rfl, _, rfl, _, _, _, rfl, (fun _ r => r), k13, (xd_mono t27 hd), by show 1 ≤ sizeLine; decide, fun l7 hl7 => ?_⟩
  generalize eq29 : upd H27 l7 _ = H29
  have s29 : Same H27 H29 := eq29 ▸ same_new hl7 _
  have h29 : H29 l7 = some (.lst [.bl b13]) := eq29 ▸ upd_same
  have t29 : Same H H29 := t27.trans s29
  clear eq29 hl7
  have g30 := s29 _ _ g28
  have g31 := s29 _ _ h27
  refine ⟨r6, l7, [.bl b0, .bl b1, .bl b2, .bl b3, .bl b4, .bl b5, .bl b6, .bl b7, .bl b8, .bl b9, .bl b10, .bl b11, .bl b12], [.bl b13], rfl, rfl, g31, h29, by show 14 ≤ sizeLine; decide, fun r7 hr7 => ?_⟩
  generalize eq32 : upd H29 r7 _ = H32
  have s32 : Same H29 H32 := eq32 ▸ same_new hr7 _
  have h32 : H32 r7 = some (.lst [.bl b0, .bl b1, .bl b2, .bl b3, .bl b4, .bl b5, .bl b6, .bl b7, .bl b8, .bl b9, .bl b10, .bl b11, .bl b12, .bl b13]) := eq32 ▸ upd_same
  have t32 : Same H H32 := t29.trans s32
  clear eq32 hr7
  have g33 := s32 _ _ g30
  refine ⟨_, rfl, by show 5 ≤ sizeLine; decide, fun l8 hl8 => ?_⟩
  generalize eq34 : upd H32 l8 _ = H34
  have s34 : Same H32 H34 := eq34 ▸ same_new hl8 _
  have h34 : H34 l8 = some (.lst [.str "CountsError", .str "LimitError", .str "TooManyStates", .str "TooManyActions", .str "TooManyRows"]) := eq34 ▸ upd_same
  have t34 : Same H H34 := t32.trans s34
  clear eq34 hl8
  have g35 := s34 _ _ g33
  have g36 := s34 _ _ h32
  refine ⟨r4, l8, [.str "ValueError", .str "ToolError", .str "LettersError", .str "MixedLetters", .str "TableError", .str "ActionError", .str "LassoError", .str "LetterError", .str "StateError", .str "RowError", .str "NotStarFree", .str "TextError", .str "NameFault", .str "LineError"], [.str "CountsError", .str "LimitError", .str "TooManyStates", .str "TooManyActions", .str "TooManyRows"], rfl, rfl, g35, h34, by show 19 ≤ sizeLine; decide, fun r8 hr8 => ?_⟩
  generalize eq37 : upd H34 r8 _ = H37
  have s37 : Same H34 H37 := eq37 ▸ same_new hr8 _
  have h37 : H37 r8 = some (.lst [.str "ValueError", .str "ToolError", .str "LettersError", .str "MixedLetters", .str "TableError", .str "ActionError", .str "LassoError", .str "LetterError", .str "StateError", .str "RowError", .str "NotStarFree", .str "TextError", .str "NameFault", .str "LineError", .str "CountsError", .str "LimitError", .str "TooManyStates", .str "TooManyActions", .str "TooManyRows"]) := eq37 ▸ upd_same
  have t37 : Same H H37 := t34.trans s37
  clear eq37 hr8
  have g38 := s37 _ _ g36
  refine ⟨_, rfl, _, rfl, _, _, _, rfl, (fun _ r => r), k14, (xd_mono t37 hd), _, rfl, _, _, _, rfl, (fun _ r => r), k15, (xd_mono t37 hd), _, rfl, _, _, _, rfl, (fun _ r => r), k16, (xd_mono t37 hd), by show 3 ≤ sizeLine; decide, fun l9 hl9 => ?_⟩
  generalize eq39 : upd H37 l9 _ = H39
  have s39 : Same H37 H39 := eq39 ▸ same_new hl9 _
  have h39 : H39 l9 = some (.lst [.bl b14, .bl b15, .bl b16]) := eq39 ▸ upd_same
  have t39 : Same H H39 := t37.trans s39
  clear eq39 hl9
  have g40 := s39 _ _ h37
  have g41 := s39 _ _ g38
  refine ⟨r7, l9, [.bl b0, .bl b1, .bl b2, .bl b3, .bl b4, .bl b5, .bl b6, .bl b7, .bl b8, .bl b9, .bl b10, .bl b11, .bl b12, .bl b13], [.bl b14, .bl b15, .bl b16], rfl, rfl, g41, h39, by show 17 ≤ sizeLine; decide, fun r9 hr9 => ?_⟩
  generalize eq42 : upd H39 r9 _ = H42
  have s42 : Same H39 H42 := eq42 ▸ same_new hr9 _
  have h42 : H42 r9 = some (.lst [.bl b0, .bl b1, .bl b2, .bl b3, .bl b4, .bl b5, .bl b6, .bl b7, .bl b8, .bl b9, .bl b10, .bl b11, .bl b12, .bl b13, .bl b14, .bl b15, .bl b16]) := eq42 ▸ upd_same
  have t42 : Same H H42 := t39.trans s42
  clear eq42 hr9
  have g43 := s42 _ _ g40
  refine ⟨_, rfl, _, rfl, _, _, _, rfl, (fun _ r => r), k17, (xd_mono t42 hd), _, rfl, _, _, _, rfl, (fun _ r => r), k18, (xd_mono t42 hd), by show 2 ≤ sizeLine; decide, fun l10 hl10 => ?_⟩
  generalize eq44 : upd H42 l10 _ = H44
  have s44 : Same H42 H44 := eq44 ▸ same_new hl10 _
  have h44 : H44 l10 = some (.lst [.bl b17, .bl b18]) := eq44 ▸ upd_same
  have t44 : Same H H44 := t42.trans s44
  clear eq44 hl10
  have g45 := s44 _ _ g43
  have g46 := s44 _ _ h42
  refine ⟨r9, l10, [.bl b0, .bl b1, .bl b2, .bl b3, .bl b4, .bl b5, .bl b6, .bl b7, .bl b8, .bl b9, .bl b10, .bl b11, .bl b12, .bl b13, .bl b14, .bl b15, .bl b16], [.bl b17, .bl b18], rfl, rfl, g46, h44, by show 19 ≤ sizeLine; decide, fun r10 hr10 => ?_⟩
  generalize eq47 : upd H44 r10 _ = H47
  have s47 : Same H44 H47 := eq47 ▸ same_new hr10 _
  have h47 : H47 r10 = some (.lst [.bl b0, .bl b1, .bl b2, .bl b3, .bl b4, .bl b5, .bl b6, .bl b7, .bl b8, .bl b9, .bl b10, .bl b11, .bl b12, .bl b13, .bl b14, .bl b15, .bl b16, .bl b17, .bl b18]) := eq47 ▸ upd_same
  have t47 : Same H H47 := t44.trans s47
  clear eq47 hr10
  have g48 := s47 _ _ g45

  have bsl : [b0, b1, b2, b3, b4, b5, b6, b7, b8, b9, b10, b11, b12, b13, b14, b15, b16, b17, b18].length = 19 := rfl
  have hFl : ∀ {Hc : Hp}, Hc r10 = some (.lst [.bl b0, .bl b1, .bl b2, .bl b3, .bl b4, .bl b5, .bl b6, .bl b7, .bl b8, .bl b9, .bl b10, .bl b11, .bl b12, .bl b13, .bl b14, .bl b15, .bl b16, .bl b17, .bl b18]) → Hc r8 = some (.lst (clsNames.map V.str)) → Same H Hc → (tLc (iRng1 (tCons (tCB (rLenOf K) (tCons (tVar 1) tNil)) tNil)) (gName 3) (tTest (tOp (rIxL K) (tVar 2) (tVar 3))) (tOp (rIxL K) (tVar 1) (tVar 3)) [3]) [some (.ref p.1), some (.ref r8), some (.ref r10), none] Hc Q := by
    intro Hc hF hN sH
    refine ⟨_, rfl, r8, _, rfl, .inl (SqL.of hN), _, rfl, by decide, by decide, fun R hR => ?_⟩
    refine walk_r (fun i H' => Same Hc H' ∧ H' R = some (.lst (((((clsNames.zip [b0, b1, b2, b3, b4, b5, b6, b7, b8, b9, b10, b11, b12, b13, b14, b15, b16, b17, b18]).take i).filter (·.2)).map (·.1)).map V.str))) ⟨same_new hR _, upd_same⟩ ?_ ?_
    · rintro i H1 hi ⟨s1, hR1⟩
      have hi19 : i < 19 := hi
      obtain ⟨b, hb⟩ : ∃ b, [b0, b1, b2, b3, b4, b5, b6, b7, b8, b9, b10, b11, b12, b13, b14, b15, b16, b17, b18][i]? = some b := ⟨_, List.getElem?_eq_getElem (by show i < 19; exact hi19)⟩
      obtain ⟨n, hn⟩ : ∃ n, clsNames[i]? = some n := ⟨_, List.getElem?_eq_getElem (by show i < 19; exact hi19)⟩
      have e1 : V.int (0 + (i : Int)) = V.int (i : Int) := by rw [Int.zero_add]
      refine ⟨rfl, ?_⟩
      refine ⟨_, rfl, _, rfl, r10, _, _, .bl b, rfl, e1, SqL.of (s1 _ _ hF), atI_nat (by show ([b0, b1, b2, b3, b4, b5, b6, b7, b8, b9, b10, b11, b12, b13, b14, b15, b16, b17, b18].map V.bl)[i]? = _; rw [List.getElem?_map, hb]; rfl), b, rfl, ?_⟩
      have ps := pick_step hn hb
      cases b with
      | false =>
        refine ⟨s1, ?_⟩
        rw [hR1, ps]
        simp
      | true =>
        refine ⟨_, rfl, _, rfl, r8, _, _, .str n, rfl, e1, SqL.of (s1 _ _ hN), atI_nat (by rw [List.getElem?_map, hn]; rfl), _, hR1, small_lt ?_, same_upd s1 hR, ?_⟩
        · rw [List.length_map, List.length_map]
          refine Nat.lt_of_le_of_lt (List.length_filter_le _ _) ?_
          rw [List.length_take]
          omega
        · rw [upd_same, ps, List.map_append]
          rfl
    · rintro H1 ⟨s1, hR1⟩
      refine q R H1 (sH.trans s1) ?_
      rw [hR1]
      rfl
  exact hFl h47 g48 t47
end
end W8

set_option Elab.async false
set_option linter.all false
set_option maxRecDepth 100000
set_option maxHeartbeats 4000000
namespace W8
open PySem PySem.Spec PyProof.Rows L2 L2E NK GM
/-- an error of the class at C with one field may be raised -/
def ErrF (E : XK) (C : Addr) (f : Str) (v : V) (H : Hp) : Prop := ∀ d H', Same H H' → H d = none → H' d = some (.xd [(f, v)]) → E (.ref C) (some d) H'
theorem ErrF.go {E : XK} {C : Addr} {f : Str} {v : V} {H H1 : Hp} {d : Addr} (h : ErrF E C f v H) (s : Same H H1) (n : H1 d = none) : E (.ref C) (some d) (upd H1 d (.xd [(f, v)])) :=
  h d _ (s.trans (same_new n _)) (s.free n) upd_same
theorem ErrF.mono {E : XK} {C : Addr} {f : Str} {v : V} {H H1 : Hp} (h : ErrF E C f v H) (s : Same H H1) : ErrF E C f v H1 := fun d H' s' n e => h d H' (s.trans s') (s.free n) e
/-- a def that may raise, by its name -/
structure CalX (P : Program) (w : World) (K : PySem.W.Frag) (mg : Str → Option Value) (base : Heap) (x : Str) (k : Nat) (ps : List Str) (sp : Sp) : Prop where
  ex : ∃ (f : Addr) (fd : FuncData), FnOk P w K mg base (L2N.CX P w) k f fd ps sp ∧ mg x = some (.ref f) ∧ PySem.W.keepIn K (.ref f) = true ∧ Binds K fd ps []
structure MCalX (P : Program) (w : World) (K : PySem.W.Frag) (mg : Str → Option Value) (base : Heap) (C : Addr) (m : Str) (k : Nat) (ps : List Str) (sp : Sp) : Prop where
  ex : ∃ (f : Addr) (fd : FuncData), FnOk P w K mg base (L2N.CX P w) k f fd ps sp ∧ Meth K C m f ∧ Binds K fd ps []
section
variable {X : Cx} {x : Str} {k j : Nat} {ps : List Str} {sp : Sp} {p pos : Pos} {e : Expr} {es : List Expr} {t : TA} {E : XK}
theorem pcallX (C : CalX X.prog X.w X.K X.mg X.base x k ps sp) (hr : Room j X.A) (hx : Passes (L2N.CX X.prog X.w) X E) (ha : PA X (e :: es) t) (hk : k ≤ j := by decide) (hg : Gl X x := by rfl) (hdb : (x == ("__debug__" : Str)) = false := by decide)
    (he : starEach (e :: es) X.env = (false, eval e X.env) :: starEach es X.env := by rfl) (hpl : (backTo pos (starEach es X.env)).any (·.1) = false := by rfl) : PE X (.Call (.Name x p) (e :: es) [] pos) (tCall sp [] E t) := by
  obtain ⟨f, fd, G, hm, kp, b⟩ := C.ex
  exact pe_call G (hr.mono hk) hg hm kp b .nil hx ha hdb he hpl
end
section
variable {P : Program} {w : World} {K : PySem.W.Frag} {mg : Str → Option Value} {base : Heap}
theorem okN {x qual : Str} {st : Stmt} {f : Addr} {fd : FuncData} {N ps : List Str} {k : Nat} {sp : Sp} (F : Fun K x qual st f fd) (S : FnScope N ps (defScope st)) (len : ∀ vs H Q E, sp vs H Q E → vs.length = ps.length)
    (hbody : ∀ (cdv : Value) (A : Around) (outer : List Env) (s : Shared) (H : Hp) (vs : List V) (Q : VK) (E : XK), Room k (A.deeper (envOfC qual (defScope st) s.heap.objs.size f cdv)) → sp vs H Q E →
      ∃ t, PSs (cxOf (L2N.CX P w) P w K mg base N qual (defScope st) f cdv A outer s H E) (defBody st) t ∧ t { nx := fun _ H' => Q .non H', rt := Q } (start N vs) H) : FnOk P w K mg base (L2N.CX P w) (k + 1) f fd ps sp := by
  obtain ⟨oc, od, kV, doc, pm, an, cdv, ct, osl, rfl, lk, hcd⟩ := F.ex
  exact fn_of lk hcd S len fun A outer s H vs Q E hr hsp => hbody cdv A outer s H vs Q E hr hsp
/-- the classes of errors that the games raise -/
structure ErrT (P : Program) (K : PySem.W.Frag) (mg : Str → Option Value) (c : Nat → Addr) (fI fS fL : Addr) : Prop where
  i : PySem.XM.XmC P K (c 7) (c 7) fI "index"
  s : PySem.XM.XmC P K (c 8) (c 8) fS "state"
  l : PySem.XM.XmC P K (c 15) (c 15) fL "limit"
  sup : mg "super" = none
  mI : mg "LetterError" = some (.ref (c 7))
  mS : mg "StateError" = some (.ref (c 8))
  mL : mg "LimitError" = some (.ref (c 15))
  mA : mg "LettersError" = some (.ref (c 2))
  q : PySem.W.excIn K (c 2) [.type "ValueError", .type "Exception", .type "BaseException", .type "object"] "ValueError.__new__" = true
  kA : PySem.W.keepIn K (.ref (c 2)) = true
  eA : PySem.W.subIn K (.ref (c 2)) (.type "BaseException") = some true
  tA : PySem.W.typeIn K (.ref (c 2)) = some (.type "type")
def spPlaceX (c : Nat → Addr) : Sp := fun vs H Q E => ∃ (x : Int) (z : List Nat), vs = [.int x, .str (S z)] ∧ z.length ≤ 1000 ∧ ((0 ≤ x ∧ x ≤ (z.length : Int)) → Q .non H) ∧ (¬ (0 ≤ x ∧ x ≤ (z.length : Int)) → ErrF E (c 8) "state" (.int x) H)
theorem ok_placeX {c : Nat → Addr} {fI fS fL f : Addr} {fd : FuncData} (F : Fun K "check_place" "check_place" sCheck_place f fd) (T : ErrT P K mg c fI fS fL) (tl : mg "len" = none) : FnOk P w K mg base (L2N.CX P w) 3 f fd ["place", "word"] (spPlaceX c) := by
  refine okN F scCheck_place (fun vs H Q E h => ?_) (fun cdv A outer s H vs Q E hr h => ?_)
  · obtain ⟨x, z, rfl, _⟩ := h
    rfl
  obtain ⟨x, z, rfl, hz, q, e⟩ := h
  refine ⟨_, (pss_one (ps_if (pt_not (pt_chain op_le op_le pe_int (pv 0) (pB1 call_len_str tl (pv 1))))
      (pss_one (L2N.ps_raise rfl (L2N.takes_of rfl rfl rfl rfl) (L2N.pmk_xm T.s hr T.mS T.sup (pa_cons (pv 0) pa_nil))))
      pss_nil)), ?_⟩
  have err : ¬ (0 ≤ x ∧ x ≤ (z.length : Int)) → ∃ v, ([V.int x] : List V) = [v] ∧ ∀ d, H d = none → E (.ref (c 8)) (some d) (upd H d (.xd [("state", v)])) := fun h => ⟨_, rfl, fun d hd => (e h).go (Same.refl H) hd⟩
  refine ⟨_, rfl, _, _, rfl, rfl, _, rfl, ?_⟩
  refine ite2 (fun h0 => ?_) (fun h0 => ?_)
  · have h0' : 0 ≤ x := of_decide_eq_true h0
    refine ⟨_, rfl, _, rfl, sz (by rw [S_len]; omega), _, _, rfl, rfl, _, rfl, ?_⟩
    refine ite2 (fun h1 => ?_) (fun h1 => ?_)
    · exact ⟨_, rfl, err fun ⟨_, h⟩ => by
        have e1 : decide (x ≤ ((S z).length : Int)) = true := decide_eq_true (by rw [S_len]; exact h)
        rw [e1] at h1
        cases h1⟩
    · refine q ⟨h0', ?_⟩
      have h2 : decide (x ≤ ((S z).length : Int)) = true := by
        cases hh : decide (x ≤ ((S z).length : Int)) with
        | true => rfl
        | false => exact absurd (by show (!decide (x ≤ ((S z).length : Int))) = true; rw [hh]; rfl) h1
      have := of_decide_eq_true h2
      rw [S_len] at this
      exact this
  · refine ⟨_, rfl, ?_⟩
    refine ite2 (fun _ => ?_) (fun h1 => absurd rfl h1)
    exact ⟨_, rfl, err fun ⟨h, _⟩ => h0 (decide_eq_true h)⟩
end
end W8

set_option Elab.async false
set_option linter.all false
set_option maxRecDepth 100000
set_option maxHeartbeats 4000000
namespace W8
open PySem PySem.Spec PyProof.Rows L2 L2E NK GM
def spLettersX (c : Nat → Addr) : Sp := fun vs H Q E => ∃ al, vs = [.str (S al)] ∧ al.length ≤ 1000 ∧ (AlphOk al → Q (.str (S al)) H) ∧ (¬ AlphOk al → E (.ref (c 2)) none H)
def spWordX (c : Nat → Addr) : Sp := fun vs H Q E => ∃ u al, vs = [.str (S u), .str (S al)] ∧ u.length ≤ 1000 ∧ ((∀ x ∈ u, x ∈ al) → ∀ H', Same H H' → Q (.str (S u)) H') ∧
  ∀ (i : Nat) x, u[i]? = some x → x ∉ al → (∀ y ∈ u.take i, y ∈ al) → ErrF E (c 7) "index" (.int (i : Int)) H
theorem decT {p : Prop} [Decidable p] (h : ¬ (!decide p) = true) : p := by
  cases hh : decide p with
  | true => exact of_decide_eq_true hh
  | false => rw [hh] at h; exact absurd rfl h
theorem decF {p : Prop} [Decidable p] (h : (!decide p) = true) : ¬ p := fun hp => by
  rw [decide_eq_true hp] at h
  cases h
section
variable {P : Program} {w : World} {K : PySem.W.Frag} {mg : Str → Option Value} {base : Heap}
theorem ok_lettersX {c : Nat → Addr} {fI fS fL f : Addr} {fd : FuncData} {t1 t2 : Tok} (F : Fun K "check_letters" "check_letters" sCheckL f fd) (T : ErrT P K mg c fI fS fL) (tl : mg "len" = none) (gM : mg "MOST_LETTERS" = some (.int 3 t1)) (gS : mg "SMALL" = some (.str "abcdefghijklmnopqrstuvwxyz" t2)) :
    FnOk P w K mg base (L2N.CX P w) 3 f fd ["letters"] (spLettersX c) := by
  refine okN F scCheckL (fun vs H Q E h => ?_) (fun cdv A outer s H vs Q E hr h => ?_)
  · obtain ⟨al, rfl, _⟩ := h
    rfl
  obtain ⟨al, rfl, hz, q, e0⟩ := h
  refine ⟨_, (pss_cons (ps_if (pt_not (pt_chain op_le op_le pe_int (pB1 call_len_str tl (pv 0)) (pe_glob (v := .int 3) rfl gM ⟨_, rfl⟩))) (pss_one (L2N.ps_raise rfl (L2N.takes_of rfl rfl rfl rfl) (L2N.pmk_own PySem.F.excBase_ValueError T.q T.mA T.kA (raises_own T.eA T.tA) rfl))) pss_nil)
    (pss_cons (ps_set (i := 1) scCheckL.nd rfl (Or.inl rfl) pe_str)
    (pss_cons (ps_for PassesOwn.leaving rfl (pi_str (pv 0)) (pg_name (i := 2) scCheckL.nd rfl (Or.inl rfl))
      (pss_cons (ps_if (PW.pt (pw_or (pt_cmpR op_notIn_sign (pv 2) (pe_glob (v := .str "abcdefghijklmnopqrstuvwxyz") rfl gS ⟨_, rfl⟩) rfl) (pw_or1 (pt_cmpR op_le_str (pv 2) (pv 1) (nomark _))))) (pss_one (L2N.ps_raise rfl (L2N.takes_of rfl rfl rfl rfl) (L2N.pmk_own PySem.F.excBase_ValueError T.q T.mA T.kA (raises_own T.eA T.tA) rfl))) pss_nil)
      (pss_one (ps_set (i := 1) scCheckL.nd rfl (Or.inl rfl) (pv 2)))))
    (pss_one (ps_ret (pv 0)))))), ?_⟩
  refine ⟨_, rfl, _, rfl, by rw [S_len]; exact sz (by omega), _, _, rfl, rfl, _, rfl, ?_⟩
  refine ite2 (fun h1 => ?_) (fun h1 => ⟨_, rfl, ite2 (fun _ => e0 fun hA => h1 (decide_eq_true (by rw [S_len]; have := hA.n1; omega))) (fun z => absurd rfl z)⟩)
  have n1 : (1 : Int) ≤ ((S al).length : Int) := of_decide_eq_true h1
  refine ⟨_, _, rfl, rfl, _, rfl, ?_⟩
  refine ite2 (fun h2 => e0 fun hA => decF h2 (by rw [S_len]; have := hA.n3; omega)) (fun h2 => ?_)
  have n3 := decT h2
  rw [S_len] at n1 n3
  refine ⟨_, rfl, _, rfl, ?_⟩
  refine L2.for_it L2.walk_str (fun i σ H' => ∃ (l : List Nat) (x : Option V), σ = [some (.str (S al)), some (.str (S l)), x] ∧ H' = H ∧ (∀ y ∈ al.take i, 97 ≤ y ∧ y ≤ 122) ∧ (al.take i).Pairwise (· < ·) ∧ (∀ y ∈ al.take i, ∃ m, l = [m] ∧ y ≤ m) ∧ (l = [] ∨ ∃ m, l = [m] ∧ 1 ≤ i ∧ al[i - 1]? = some m))
    ⟨[], none, rfl, rfl, (fun y h => nomatch h), List.Pairwise.nil, (fun y h => nomatch h), .inl rfl⟩ (fun _ _ _ _ _ => trivial) ?_ ?_
  · rintro i x σ H1 H2 hi ⟨l, z, rfl, rfl, hlo, hpw, hle, hl⟩ ⟨rfl, ch, hc, rfl⟩
    have hc' : al[i]? = some ch := by
      rw [← hc]
      show al[i]? = al.toArray[i]?
      simp
    have hmem := List.mem_of_getElem? hc'
    refine ⟨_, rfl, ch, S small, rfl, by rw [small_eq], _, rfl, ?_⟩
    refine ite2 (fun h3 => e0 fun hA => decF h3 (mem_small (hA.lo ch hmem))) (fun h3 => ?_)
    have hm : ch ∈ small := decT h3
    refine ⟨_, rfl, _, rfl, S [ch], S l, rfl, rfl, _, rfl, ?_⟩
    refine ite2 (fun h4 => e0 fun hA => ?_) (fun h4 => ?_)
    · have h5 : ¬ (l < [ch]) := decF h4
      rcases hl with rfl | ⟨m, rfl, hi1, hm1⟩
      · exact h5 (List.nil_lt_cons _ _)
      · refine h5 ((single_lt m ch).mpr ?_)
        obtain ⟨g1, e1⟩ := List.getElem?_eq_some_iff.mp hm1
        obtain ⟨g2, e2⟩ := List.getElem?_eq_some_iff.mp hc'
        have := List.pairwise_iff_getElem.mp hA.asc (i - 1) i g1 g2 (by omega)
        rw [e1, e2] at this
        exact this
    · have h5 : l < [ch] := decT h4
      have lt : ∀ y ∈ al.take i, y < ch := fun y hy => by
        obtain ⟨m, rfl, hym⟩ := hle y hy
        have := (single_lt m ch).mp h5
        omega
      have hr : 97 ≤ ch ∧ ch ≤ 122 := by
        unfold small at hm
        obtain ⟨k, hk, rfl⟩ := List.mem_map.mp hm
        have := List.mem_range.mp hk
        omega
      have e1 : al.take (i + 1) = al.take i ++ [ch] := by rw [List.take_add_one, hc']; rfl
      refine ⟨_, rfl, [ch], _, rfl, rfl, ?_, ?_, ?_, .inr ⟨ch, rfl, by omega, by rw [Nat.add_sub_cancel]; exact hc'⟩⟩
      · intro y hy
        rw [e1] at hy
        rcases List.mem_append.mp hy with h | h
        · exact hlo y h
        · rw [List.mem_singleton.mp h]; exact hr
      · rw [e1]
        exact List.pairwise_append.mpr ⟨hpw, List.pairwise_singleton _ _, fun y hy z hz => by rw [List.mem_singleton.mp hz]; exact lt y hy⟩
      · intro y hy
        rw [e1] at hy
        rcases List.mem_append.mp hy with h | h
        · exact ⟨ch, rfl, Nat.le_of_lt (lt y h)⟩
        · exact ⟨ch, rfl, by rw [List.mem_singleton.mp h]; exact Nat.le_refl _⟩
  · rintro σ H1 ⟨l, z, rfl, rfl, hlo, hpw, hle, hl⟩
    have e : al.take (S al).cps.size = al := List.take_of_length_le (by show al.length ≤ al.toArray.size; simp)
    rw [e] at hlo hpw
    exact ⟨_, rfl, q ⟨by omega, by omega, hpw, hlo⟩⟩
end
end W8

set_option Elab.async false
set_option linter.all false
set_option maxRecDepth 100000
set_option maxHeartbeats 4000000
namespace W8
open PySem PySem.Spec PyProof.Rows L2 L2E NK GM
def BadAt (u al : List Nat) (i : Nat) : Prop := ∃ x, u[i]? = some x ∧ x ∉ al ∧ ∀ y ∈ u.take i, y ∈ al
def ErrB (E : XK) (C : Addr) (f : Str) (v : V) (p : Addr) (H : Hp) : Prop := ∀ d H', But p H H' → H d = none → H' d = some (.xd [(f, v)]) → E (.ref C) (some d) H'
/-- the faults of a choice, and what else -/
def ChoiceX (c : Nat → Addr) (H : Hp) (E : XK) (u v : List Nat) (r : Nat) (prs : Prs) (s x : Int) (ok : Nat → Nat → Prop) : Prop :=
  (prs.length = r → ErrF E (c 15) "limit" (.int (r : Int)) H) ∧ (prs.length < r → ¬ (s = 0 ∨ s = 1) → ErrF E (c 8) "state" (.int s) H) ∧
    (prs.length < r → ∀ n : Nat, n ≤ 1 → s = (n : Int) → ¬ (0 ≤ x ∧ x ≤ ((wd u v n).length : Int)) → ErrF E (c 8) "state" (.int x) H) ∧
    (prs.length < r → ∀ n m : Nat, n ≤ 1 → s = (n : Int) → x = (m : Int) → m ≤ (wd u v n).length → ok n m)
theorem ChoiceX.mono {c : Nat → Addr} {H H1 : Hp} {E : XK} {u v : List Nat} {r : Nat} {prs : Prs} {s x : Int} {ok ok' : Nat → Nat → Prop} (h : ChoiceX c H E u v r prs s x ok) (t : Same H H1) (f : ∀ n m, ok n m → ok' n m) : ChoiceX c H1 E u v r prs s x ok' :=
  ⟨fun a => (h.1 a).mono t, fun a b => (h.2.1 a b).mono t, fun a n b e g => (h.2.2.1 a n b e g).mono t, fun a n m b e1 e2 g => f n m (h.2.2.2 a n m b e1 e2 g)⟩
def spChoiceX (c : Nat → Addr) (C : Addr) : Sp := fun vs H Q E => ∃ (p dx wt pt : Addr) (al u v : List Nat) (r : Nat) (s x : Int) (prs : Prs) (qs : List Addr), vs = [.ref p, .int s, .int x] ∧ GameSt H p C dx wt pt al u v r prs qs ∧ u.length ≤ 60 ∧ v.length ≤ 60 ∧ prs.length ≤ r ∧
  ChoiceX c H E u v r prs s x fun _ _ => ∀ H', Same H H' → Q .non H'
def spPlayX (c : Nat → Addr) (C : Addr) : Sp := fun vs H Q E => ∃ (p dx wt pt : Addr) (al u v : List Nat) (r : Nat) (s x y : Int) (prs : Prs) (qs : List Addr), vs = [.ref p, .int s, .int x, .int y] ∧ GameSt H p C dx wt pt al u v r prs qs ∧ u.length ≤ 60 ∧ v.length ≤ 60 ∧ r ≤ 3 ∧ prs.length ≤ r ∧
  ChoiceX c H E u v r prs s x fun n m => (¬ (0 ≤ y ∧ y ≤ ((wd u v (1 - n)).length : Int)) → ErrF E (c 8) "state" (.int y) H) ∧
    ∀ k : Nat, y = (k : Int) → k ≤ (wd u v (1 - n)).length → ∀ H' pt' qs', But p H H' → GameSt H' p C dx wt pt' al u v r (prs ++ [mkp n m k]) qs' → Q .non H'
def spReplyX (c : Nat → Addr) (C : Addr) : Sp := fun vs H Q E => ∃ (p dx wt pt : Addr) (al u v : List Nat) (r : Nat) (s x : Int) (prs : Prs) (qs : List Addr), vs = [.ref p, .int s, .int x] ∧ GameSt H p C dx wt pt al u v r prs qs ∧ u.length ≤ 60 ∧ v.length ≤ 60 ∧ r ≤ 3 ∧ prs.length ≤ r ∧ Inb u.length v.length prs ∧
  ChoiceX c H E u v r prs s x fun n m => ∀ o H', Same H H' → ReplyIs (r - prs.length - 1) u v prs n m o → Q (optN o) H'
section
variable {P : Program} {w : World} {K : PySem.W.Frag} {mg : Str → Option Value} {base : Heap}
theorem ok_wordX {c : Nat → Addr} {fI fS fL f : Addr} {fd : FuncData} (F : Fun K "check_word" "check_word" sCheckW f fd) (T : ErrT P K mg c fI fS fL) (te : mg "enumerate" = none) : FnOk P w K mg base (L2N.CX P w) 3 f fd ["word", "letters"] (spWordX c) := by
  refine okN F scCheckW (fun vs H Q E h => ?_) (fun cdv A outer s H vs Q E hr h => ?_)
  · obtain ⟨u, al, rfl, _⟩ := h
    rfl
  obtain ⟨u, al, rfl, hz, q, e0⟩ := h
  refine ⟨_, (pss_cons (ps_for PassesOwn.leaving rfl (pi_enumS (by rfl) te (pa_cons (pv 0) pa_nil)) (pg_tup (by rfl) (pgs_cons (pg_name (i := 2) scCheckW.nd rfl (Or.inl rfl)) (pgs_cons (pg_name (i := 3) scCheckW.nd rfl (Or.inl rfl)) pgs_nil)))
      (pss_one (ps_if (pt_cmpR op_notIn_sign (pv 3) (pv 1) rfl) (pss_one (L2N.ps_raise rfl (L2N.takes_of rfl rfl rfl rfl) (L2N.pmk_xm T.i hr T.mI T.sup (pa_cons (pv 2) pa_nil)))) pss_nil)))
    (pss_one (ps_ret (pv 0)))), ?_⟩
  refine ⟨_, rfl, _, rfl, ?_⟩
  refine L2.for_it (walk_enumS (z := S u)) (fun i σ H' => ∃ (x y : Option V), σ = [some (.str (S u)), some (.str (S al)), x, y] ∧ Same H H' ∧ ∀ y ∈ u.take i, y ∈ al) ⟨none, none, rfl, Same.refl H, (fun y h => nomatch h)⟩ (fun _ _ _ _ _ => trivial) ?_ ?_
  · rintro i x σ H1 H2 hi ⟨x1, y1, rfl, s1, hp⟩ ⟨t, ch, rfl, hT, rfl, hc⟩
    have hc' : u[i]? = some ch := by
      rw [← hc]
      show u[i]? = u.toArray[i]?
      simp
    have s2 := s1.trans (same_new hT (.tup [.int (i : Int), .str ⟨#[ch]⟩]))
    refine ⟨t, _, rfl, SqT.of upd_same, rfl, _, _, rfl, _, _, rfl, rfl, ?_⟩
    refine ⟨_, rfl, _, rfl, ch, S al, rfl, rfl, _, rfl, ?_⟩
    refine ite2 (fun h1 => ?_) (fun h1 => ?_)
    · have hn : ch ∉ al := decF h1
      exact ⟨_, rfl, _, rfl, fun d hd => (e0 i ch hc' hn hp).go s2 hd⟩
    · have hm : ch ∈ al := decT h1
      refine ⟨_, _, rfl, s2, fun y hy => ?_⟩
      rw [List.take_add_one, hc'] at hy
      rcases List.mem_append.mp hy with h | h
      · exact hp y h
      · have : y = ch := by simpa using h
        rw [this]; exact hm
  · rintro σ H1 ⟨x1, y1, rfl, s1, hp⟩
    have e : u.take (S u).cps.size = u := List.take_of_length_le (by show u.length ≤ u.toArray.size; simp)
    rw [e] at hp
    exact ⟨_, rfl, q hp H1 s1⟩
theorem ok_choiceX {c : Nat → Addr} {fI fS fL f C : Addr} {fd : FuncData} (F : Fun K "check_choice" "Game.check_choice" sChoice f fd) (X : ErrT P K mg c fI fS fL) (T : GameT K mg C) (tl : mg "len" = none) (cp : CalX P w K mg base "check_place" 3 ["place", "word"] (spPlaceX c)) :
    FnOk P w K mg base (L2N.CX P w) 4 f fd ["self", "side", "place"] (spChoiceX c C) := by
  refine okN F scChoice (fun vs H Q E h => ?_) (fun cdv A outer s H vs Q E hr h => ?_)
  · obtain ⟨p, dx, wt, pt, al, u, v, r, s, x, prs, qs, rfl, _⟩ := h
    rfl
  obtain ⟨p, dx, wt, pt, al, u, v, r, sd, x, prs, qs, rfl, G, hu, hv, hp, eL, eS, eX, q⟩ := h
  have hql : qs.length = prs.length := Paired.length G.q
  refine ⟨_, (pss_cons (ps_if (pt_cmpR op_eq (pB1 call_len_seq tl (pe_fld (pv 0) rfl)) (pe_fld (pv 0) rfl) (nomark _))
      (pss_one (L2N.ps_raise rfl (L2N.takes_of rfl rfl rfl rfl) (L2N.pmk_xm X.l hr X.mL X.sup (pa_cons (pe_fld (pv 0) rfl) pa_nil))))
      pss_nil)
    (pss_cons (ps_if (pt_cmpR op_notIn_seq (pv 1) (pe_tup (pa_cons pe_int (pa_cons pe_int pa_nil))) rfl)
      (pss_one (L2N.ps_raise rfl (L2N.takes_of rfl rfl rfl rfl) (L2N.pmk_xm X.s hr X.mS X.sup (pa_cons (pv 1) pa_nil))))
      pss_nil)
    (pss_one (ps_expr (pcallX cp hr (L2N.passes_call (L2N.takes_of rfl rfl rfl rfl) (fun _ _ _ _ h => h)) (pa_cons (pv 2) (pa_cons (pixT (pe_fld (pv 0) rfl) (pv 1)) pa_nil))))))), ?_⟩
  refine ⟨_, rfl, p, C, dx, _, _, rfl, G.o, T.cl, T.nP, gf_pairs _ _ _ _, pt, _, rfl, .inr (SqT.of G.t), _, rfl, p, C, dx, _, _, rfl, G.o, T.cl, T.nR, gf_rounds _ _ _ _, rfl, _, rfl, ?_⟩
  refine ite2 (fun e => ?_) (fun e => ?_)
  · have e1 := int_eq e
    rw [List.length_map] at e1
    exact ⟨_, rfl, p, C, dx, _, _, rfl, G.o, T.cl, T.nR, gf_rounds _ _ _ _, _, rfl, fun d hd => (eL (by omega)).go (Same.refl H) hd⟩
  have hlt : prs.length < r := by
    have : prs.length ≠ r := fun z => e (decide_eq_true (by rw [List.length_map, hql, z]))
    omega
  refine ⟨_, rfl, by show 2 ≤ sizeLine; decide, fun t ht => ?_⟩
  have s1 := same_new ht (.tup [.int 0, .int 1])
  refine ⟨t, _, rfl, .inr (SqT.of upd_same), rfl, rfl, _, rfl, ?_⟩
  have e1 : (if true = true then !inV (.int sd) [.int 0, .int 1] else inV (.int sd) [.int 0, .int 1]) = !decide (sd = 0 ∨ sd = 1) := by
    show (!((((0 : Int) == sd)) || (((1 : Int) == sd) || false))) = _
    by_cases h0 : sd = 0
    · subst h0
      rfl
    by_cases h1 : sd = 1
    · subst h1
      rfl
    rw [show ((0 : Int) == sd) = false from beq_false_of_ne fun z => h0 z.symm, show ((1 : Int) == sd) = false from beq_false_of_ne fun z => h1 z.symm, decide_eq_false (fun z => z.elim h0 h1)]
    rfl
  refine ite2 (fun e2 => ?_) (fun e2 => ?_)
  · have hn : ¬ (sd = 0 ∨ sd = 1) := decF (e1.symm.trans e2)
    exact ⟨_, rfl, _, rfl, fun d hd => (eS hlt hn).go s1 hd⟩
  have h01 : sd = 0 ∨ sd = 1 := decT fun z => e2 (e1.trans z)
  obtain ⟨n, hn1, rfl⟩ : ∃ n : Nat, n ≤ 1 ∧ sd = (n : Int) := by
    rcases h01 with rfl | rfl
    · exact ⟨0, by omega, rfl⟩
    · exact ⟨1, by omega, rfl⟩
  have G1 := G.mono s1
  refine ⟨_, rfl, _, rfl, p, C, dx, _, _, rfl, G1.o, T.cl, T.nW, gf_words _ _ _ _, _, rfl, wt, _, _, _, rfl, rfl, SqT.of G1.w, wd_at u v hn1, x, wd u v n, rfl, Nat.le_trans (wd_len hu hv) (by decide), fun hx => ?_, fun hx => (eX hlt n hn1 rfl hx).mono s1⟩
  exact q hlt n x.toNat hn1 rfl (by omega) (by omega) _ s1
end
end W8

set_option Elab.async false
set_option linter.all false
set_option maxRecDepth 100000
set_option maxHeartbeats 4000000
namespace W8
open PySem PySem.Spec PyProof.Rows L2 L2E NK GM
section
variable {P : Program} {w : World} {K : PySem.W.Frag} {mg : Str → Option Value} {base : Heap}
theorem ok_playX {c : Nat → Addr} {fI fS fL f C : Addr} {fd : FuncData} (F : Fun K "play" "Game.play" sPlay f fd) (X : ErrT P K mg c fI fS fL) (T : GameT K mg C) (cp : CalX P w K mg base "check_place" 3 ["place", "word"] (spPlaceX c)) (cc : MCalX P w K mg base C "check_choice" 4 ["self", "side", "place"] (spChoiceX c C)) :
    FnOk P w K mg base (L2N.CX P w) 5 f fd ["self", "side", "place", "answer"] (spPlayX c C) := by
  refine okN F scPlay (fun vs H Q E h => ?_) (fun cdv A outer s H vs Q E hr h => ?_)
  · obtain ⟨p, dx, wt, pt, al, u, v, r, s, x, y, prs, qs, rfl, _⟩ := h
    rfl
  obtain ⟨p, dx, wt, pt, al, u, v, r, sd, x, y, prs, qs, rfl, G, hu, hv, hr3, hp, ch⟩ := h
  have hql : qs.length = prs.length := Paired.length G.q
  obtain ⟨f1, fd1, F1, m1, b1⟩ := cc.ex
  have tk := fun (W : WX) (h : W = fun cls d _ H => E cls d H) => h ▸ (L2N.takes_of (X := cxOf (L2N.CX P w) P w K mg base ["self", "side", "place", "answer"] "Game.play" (defScope sPlay) f cdv A outer s H E) (E := E) rfl rfl rfl rfl)
  refine ⟨_, (pss_cons (ps_expr (pe_meth (E := E) (pv 0) T.cl m1 F1 hr b1 .nil (L2N.passes_call (L2N.takes_of rfl rfl rfl rfl) (fun _ _ _ _ h => h)) (pa_cons (pv 1) (pa_cons (pv 2) pa_nil))))
    (pss_cons (ps_expr (pcallX (E := E) cp hr (L2N.passes_call (L2N.takes_of rfl rfl rfl rfl) (fun _ _ _ _ h => h)) (pa_cons (pv 3) (pa_cons (pixT (pe_fld (pv 0) rfl) (pe_op op_sub pe_int (pv 1))) pa_nil))))
    (pss_one (ps_if (pt_cmpR op_eq (pv 1) pe_int (nomark _))
      (pss_one (ps_fld (pv 0) (pe_op (r := rCatA K) op_catA (pe_fld (pv 0) rfl) (pe_tup (pa_cons (pe_tup (pa_cons (pv 2) (pa_cons (pv 3) pa_nil))) pa_nil))) rfl))
      (pss_one (ps_fld (pv 0) (pe_op (r := rCatA K) op_catA (pe_fld (pv 0) rfl) (pe_tup (pa_cons (pe_tup (pa_cons (pv 3) (pa_cons (pv 2) pa_nil))) pa_nil))) rfl)))))), ?_⟩
  refine ⟨_, rfl, p, dx, _, rfl, G.o, gf_no _ _ _ _ (by decide +kernel), _, rfl, _, rfl, p, dx, wt, pt, al, u, v, r, sd, x, prs, qs, rfl, G, hu, hv, hp, ch.1, ch.2.1, ch.2.2.1, fun hlt n m hn1 e1 e2 hm H1 s1 => ?_⟩
  subst e1 e2
  obtain ⟨eY, q⟩ := ch.2.2.2 hlt n m hn1 rfl rfl hm
  have G1 := G.mono s1
  refine ⟨_, rfl, _, rfl, p, C, dx, _, _, rfl, G1.o, T.cl, T.nW, gf_words _ _ _ _, _, rfl, _, _, rfl, rfl, wt, _, _, _, rfl, rfl, SqT.of G1.w, wd_at1 u v hn1, y, wd u v (1 - n), rfl, Nat.le_trans (wd_len hu hv) (by decide), fun hy => ?_, fun hy => (eY hy).mono s1⟩
  obtain ⟨k, rfl⟩ : ∃ k : Nat, y = (k : Int) := ⟨y.toNat, by omega⟩
  have q' := q k rfl (by omega)
  have fin : ∀ (a b : Nat) (tp tq : Addr) (Q2 : VK), H1 tp = none → upd H1 tp (.tup [natV a, natV b]) tq = none → (a, b) = mkp n m k →
      (∀ c H4, H4 p = some (.ins C dx (gf (.str (S al)) (.ref wt) (.int (r : Int)) (.ref pt))) → (∀ Q3 : Prop, (∀ H' pt' qs', H' = upd H4 p (.ins C dx (gf (.str (S al)) (.ref wt) (.int (r : Int)) (.ref c))) → But p H H' → GameSt H' p C dx wt pt' al u v r (prs ++ [mkp n m k]) qs' → Q3) → Q3) → Q2 (.ref c) H4) →
      rCatA K (.ref pt) (.ref tq) (upd (upd H1 tp (.tup [natV a, natV b])) tq (.tup [.ref tp])) Q2 := by
    intro a b tp tq Q2 htp htq hab kk0
    have s2 := same_new htp (.tup [natV a, natV b])
    have s3 := same_new htq (.tup [.ref tp])
    have G3 := G1.mono (s2.trans s3)
    have htp3 : (upd (upd H1 tp (.tup [natV a, natV b])) tq (.tup [.ref tp])) tp = some (.tup [natV a, natV b]) := s3 _ _ upd_same
    refine catA2 G3.t upd_same (by rw [List.length_map]; omega) fun c H4 s4 hc => ?_
    have G4 := G3.mono s4
    have htp4 := s4 _ _ htp3
    refine kk0 c H4 G4.o fun Q3 kk => ?_
    have ncp : c ≠ p := ne_of hc G4.o (by intro z; cases z)
    refine kk _ c (qs ++ [tp]) rfl (fun b o nb ho => by rw [upd_ne nb]; exact s4 _ _ (s3 _ _ (s2 _ _ (s1 _ _ ho)))) ⟨upd_same, ?_, ?_, ?_⟩
    · rw [upd_ne (ne_of G4.w G4.o (by intro z; cases z))]
      exact G4.w
    · rw [upd_ne ncp, List.map_append]
      exact hc
    · refine paired_snoc (Paired.mapP G4.q fun a b h => ?_) ?_
      · rw [upd_ne (ne_of h G4.o (by intro z; cases z))]
        exact h
      · rw [upd_ne (ne_of htp4 G4.o (by intro z; cases z)), ← hab]
        exact htp4
  refine ⟨_, rfl, rfl, _, rfl, ?_⟩
  refine ite2 (fun e => ?_) (fun e => ?_)
  · have s0 : n = 0 := by have := int_eq e; omega
    refine ⟨_, rfl, p, C, dx, _, _, rfl, G1.o, T.cl, T.nP, gf_pairs _ _ _ _, _, rfl, _, rfl, by show 2 ≤ sizeLine; decide, fun tp htp => ⟨by show 1 ≤ sizeLine; decide, fun tq htq => ?_⟩⟩
    refine fin m k tp tq _ htp htq (by unfold mkp; rw [if_pos s0]) fun c H4 h4 kk => ?_
    refine ⟨_, rfl, p, C, dx, _, rfl, h4, T.cl, T.nP, by show 4 < 1000; decide, ?_⟩
    rw [putF_pairs]
    exact kk _ fun H' pt' qs' e b g => e ▸ q' H' pt' qs' b g
  · have s0 : n ≠ 0 := fun z => e (decide_eq_true (by rw [z]; rfl))
    refine ⟨_, rfl, p, C, dx, _, _, rfl, G1.o, T.cl, T.nP, gf_pairs _ _ _ _, _, rfl, _, rfl, by show 2 ≤ sizeLine; decide, fun tp htp => ⟨by show 1 ≤ sizeLine; decide, fun tq htq => ?_⟩⟩
    refine fin k m tp tq _ htp htq (by unfold mkp; rw [if_neg s0]) fun c H4 h4 kk => ?_
    refine ⟨_, rfl, p, C, dx, _, rfl, h4, T.cl, T.nP, by show 4 < 1000; decide, ?_⟩
    rw [putF_pairs]
    exact kk _ fun H' pt' qs' e b g => e ▸ q' H' pt' qs' b g
theorem ok_replyX {c : Nat → Addr} {f C : Addr} {fd : FuncData} (F : Fun K "reply" "Game.reply" sReply f fd) (T : GameT K mg C) (te : mg "enumerate" = none) (cc : MCalX P w K mg base C "check_choice" 4 ["self", "side", "place"] (spChoiceX c C)) (ck : MCal P w K mg base C "kinds" 6 ["self", "side", "numbers"] (spKinds P w C)) :
    FnOk P w K mg base (L2N.CX P w) 7 f fd ["self", "side", "place"] (spReplyX c C) := by
  refine okN F scReply (fun vs H Q E h => ?_) (fun cdv A outer s H vs Q E hr h => ?_)
  · obtain ⟨p, dx, wt, pt, al, u, v, r, s, x, prs, qs, rfl, _⟩ := h
    rfl
  obtain ⟨p, dx, wt, pt, al, u, v, r, sd, xx, prs, qs, rfl, G, hu, hv, hr3, hp0, hin, ch⟩ := h
  obtain ⟨f1, fd1, F1, m1, b1⟩ := cc.ex
  obtain ⟨f2, fd2, F2, m2, b2⟩ := ck.ex
  refine ⟨_, (pss_cons (ps_expr (pe_meth (E := E) (pv 0) T.cl m1 F1 (hr.mono (by decide)) b1 .nil (L2N.passes_call (L2N.takes_of rfl rfl rfl rfl) (fun _ _ _ _ h => h)) (pa_cons (pv 1) (pa_cons (pv 2) pa_nil))))
    (pss_cons (ps_set (i := 3) scReply.nd rfl (Or.inl rfl) NK.pe_nnew)
    (pss_cons (ps_set (i := 4) scReply.nd rfl (Or.inl rfl) (pixL (pe_meth (pv 0) T.cl m2 F2 hr b2 .nil pass0 (pa_cons (pv 1) (pa_cons (pv 3) pa_nil))) (pv 2)))
    (pss_cons (ps_for PassesOwn.leaving rfl (pi_enum (by rfl) te (pa_cons (pe_meth (pv 0) T.cl m2 F2 hr b2 .nil pass0 (pa_cons (pe_op op_sub pe_int (pv 1)) (pa_cons (pv 3) pa_nil))) pa_nil)) (pg_tup (by rfl) (pgs_cons (pg_name (i := 5) scReply.nd rfl (Or.inl rfl)) (pgs_cons (pg_name (i := 6) scReply.nd rfl (Or.inl rfl)) pgs_nil)))
      (pss_one (ps_if (pt_cmpR op_eq (pv 6) (pv 4) (nomark _))
        (pss_one (ps_ret (pv 5)))
        pss_nil)))
    (pss_one (ps_ret pe_non)))))), ?_⟩
  refine ⟨_, rfl, p, dx, _, rfl, G.o, gf_no _ _ _ _ (by decide +kernel), _, rfl, _, rfl, p, dx, wt, pt, al, u, v, r, sd, xx, prs, qs, rfl, G, hu, hv, hp0, ch.1, ch.2.1, ch.2.2.1, fun hp n m hs e1 e2 hx H1 s1 => ?_⟩
  subst e1 e2
  have q := ch.2.2.2 hp n m hs rfl rfl hx
  intro d hd
  have sd := s1.trans (same_new hd (ND P w d []))
  have Gd := G.mono sd
  have hNd : NumD P w (upd H1 d (ND P w d [])) d [] := ⟨[], upd_same, (fun _ h => nomatch h), rfl, (fun _ _ e => by cases e), List.nodup_nil⟩
  refine ⟨_, rfl, p, dx, _, rfl, Gd.o, gf_no _ _ _ _ (by decide +kernel), _, rfl, _, rfl, p, dx, wt, pt, al, u, v, r, n, r - prs.length - 1, prs, qs, d, [], rfl, Gd, hu, hv, hr3, hs, by omega, hin, hNd, by decide, fun La H2 D1 ks b2 hN2 pre2 len2 hLa gk => ?_⟩
  obtain ⟨k, hk⟩ : ∃ k, ks[m]? = some k := ⟨ks[m]'(by rw [gk.1]; omega), List.getElem?_eq_getElem _⟩
  refine ⟨_, rfl, La, _, _, _, rfl, rfl, SqL.of hLa, atI_nat (by rw [List.getElem?_map, hk] <;> rfl), ?_⟩
  have S2 : Same H H2 := fun b o e => b2 b o (ne_of_none (s1 _ _ e) hd) (sd b o e)
  have G2 := G.mono S2
  refine ⟨_, rfl, p, dx, _, rfl, G2.o, gf_no _ _ _ _ (by decide +kernel), _, rfl, _, _, rfl, rfl, _, rfl, p, dx, wt, pt, al, u, v, r, 1 - n, r - prs.length - 1, prs, qs, d, D1, ?_, G2, hu, hv, hr3, by omega, by omega, hin, hN2, ?_, fun Lb H3 D2 js b3 hN3 pre3 len3 hLb gj => ?_⟩
  · exact congrArg (fun z => [V.ref p, V.int z, V.ref d]) (by omega)
  · have : ([] : List (List Itm)).length = 0 := rfl
    omega
  have S3 : Same H H3 := fun b o e => b3 b o (ne_of_none (s1 _ _ e) hd) (S2 b o e)
  obtain ⟨kvs, _, _, _, _, nd⟩ := hN3
  have gk2 := gk.mono pre3
  have key : ∀ y j, js[y]? = some j → (j = k ↔ Wins (r - prs.length - 1) u v prs n m y) := fun y j hj => kinds_iff nd hin hs gk2 gj hk hj
  refine ⟨Lb, _, rfl, SqL.of hLb, ?_⟩
  refine L2.for_it (walk_enum (xs := js.map natV)) (fun i σ H' => ∃ (y1 y2 : Option V), σ = [some (.ref p), some (.int (n : Int)), some (.int (m : Int)), some (.ref d), some (natV k), y1, y2] ∧ Same H3 H' ∧ ∀ z, z < i → ¬ Wins (r - prs.length - 1) u v prs n m z) ⟨none, none, rfl, Same.refl H3, fun z hz => by omega⟩ (fun _ _ _ _ ⟨_, _, _, s4, _⟩ => SqL.of (s4 _ _ hLb)) ?_ ?_
  · rintro i y σ H4 H5 hi ⟨y1, y2, rfl, s4, hno⟩ ⟨t, a, b, rfl, ht, rfl, ha, hb⟩
    obtain rfl : a = natV i := (Option.some.inj ha).symm
    obtain ⟨j, hj, rfl, _⟩ := get_map hb
    have s5 := s4.trans (same_new ht (.tup [natV i, natV j]))
    refine ⟨t, _, rfl, SqT.of upd_same, rfl, _, _, rfl, _, _, rfl, rfl, ?_⟩
    refine ⟨_, rfl, _, rfl, rfl, _, rfl, ?_⟩
    have hil : i ≤ (wd u v (1 - n)).length := by
      have := (List.getElem?_eq_some_iff.mp hj).1
      have := gj.1
      omega
    refine ite2 (fun e => ?_) (fun e => ?_)
    · have e1 : j = k := by have := int_eq e; omega
      exact ⟨_, rfl, q (some i) _ (S3.trans s5) ⟨hil, (key i j hj).mp e1, hno⟩⟩
    · refine ⟨_, _, rfl, s5, fun z hz hw => ?_⟩
      by_cases ez : z = i
      · subst ez
        exact e (decide_eq_true (by rw [(key z j hj).mpr hw]))
      · exact hno z (by omega) hw
  · rintro σ H4 ⟨y1, y2, rfl, s4, hno⟩
    rw [List.length_map, gj.1] at hno
    exact q none H4 (S3.trans s4) fun y hy => hno y (by omega)
end
end W8

set_option Elab.async false
set_option linter.all false
set_option maxRecDepth 100000
set_option maxHeartbeats 4000000
namespace W8
open PySem PySem.Spec PyProof.Rows L2 L2E NK GM
theorem ErrB.go {E : XK} {C : Addr} {f : Str} {v : V} {p : Addr} {H H1 : Hp} {d : Addr} {o : HO} (h : ErrB E C f v p H) (b : But p H H1) (hp : H1 p = some o) (n : H1 d = none) : E (.ref C) (some d) (upd H1 d (.xd [(f, v)])) := by
  have np : d ≠ p := fun e => by
    rw [e, hp] at n
    cases n
  refine h d _ (fun a o na ho => ?_) ?_ upd_same
  · have := b a o na ho
    rw [upd_ne (ne_of_none this n)]
    exact this
  · cases hd : H d with
    | none => rfl
    | some o' => rw [b d o' np hd] at n; cases n
theorem ErrB.lift {E : XK} {C : Addr} {f : Str} {v : V} {p : Addr} {H H1 : Hp} {o : HO} (h : ErrB E C f v p H) (b : But p H H1) (hp : H1 p = some o) : ErrF E C f v H1 := fun d H' s n e => by
  have np : d ≠ p := fun e => by
    rw [e, hp] at n
    cases n
  refine h d _ (fun a o na ho => s a o (b a o na ho)) ?_ e
  cases hd : H d with
  | none => rfl
  | some o' => rw [b d o' np hd] at n; cases n
def spInitX (c : Nat → Addr) (C : Addr) : Sp := fun vs H Q E => ∃ (p dx : Addr) (al u v : List Nat) (r : Int), vs = [.ref p, .str (S al), .str (S u), .str (S v), .int r] ∧ H p = some (.ins C dx []) ∧ al.length ≤ 1000 ∧ u.length ≤ 1000 ∧ v.length ≤ 1000 ∧
  (¬ AlphOk al → E (.ref (c 2)) none H) ∧
  (AlphOk al → (∀ i, BadAt u al i → ErrB E (c 7) "index" (.int (i : Int)) p H) ∧ ((∀ x ∈ u, x ∈ al) → (∀ i, BadAt v al i → ErrB E (c 7) "index" (.int (i : Int)) p H) ∧ ((∀ x ∈ v, x ∈ al) →
    (¬ (0 ≤ r ∧ r ≤ 3) → ErrB E (c 15) "limit" (.int 3) p H) ∧
    (0 ≤ r → r ≤ 3 → ∀ H' wt pt, But p H H' → H' p = some (.ins C dx (gf (.str (S al)) (.ref wt) (.int r) (.ref pt))) → H' wt = some (.tup [.str (S u), .str (S v)]) → H' pt = some (.tup []) → Q .non H'))))
section
variable {P : Program} {w : World} {K : PySem.W.Frag} {mg : Str → Option Value} {base : Heap}
theorem ok_initX {c : Nat → Addr} {fI fS fL f C : Addr} {fd : FuncData} (F : Fun K "__init__" "Game.__init__" sInit f fd) (X : ErrT P K mg c fI fS fL) (T : GameT K mg C) (ccheck_letters : CalX P w K mg base "check_letters" 3 ["letters"] (spLettersX c)) (ccheck_word : CalX P w K mg base "check_word" 3 ["word", "letters"] (spWordX c)) :
    FnOk P w K mg base (L2N.CX P w) 4 f fd ["self", "letters", "one", "other", "rounds"] (spInitX c C) := by
  refine okN F scInit (fun vs H Q E h => ?_) (fun cdv A outer s H vs Q E hr h => ?_)
  · obtain ⟨p, dx, al, u, v, r, rfl, _⟩ := h
    rfl
  obtain ⟨p, dx, al, u, v, r, rfl, hp, za, zu, zv, eA, q⟩ := h
  obtain ⟨uc, hcon⟩ := T.con
  refine ⟨_, (pss_cons (ps_fld (pv 0) (pcallX ccheck_letters hr (L2N.passes_call (L2N.takes_of rfl rfl rfl rfl) (fun _ _ _ _ h => h)) (pa_cons (pv 1) pa_nil)) rfl)
    (pss_cons (ps_fld (pv 0) (pe_tup (pa_cons (pcallX ccheck_word hr (L2N.passes_call (L2N.takes_of rfl rfl rfl rfl) (fun _ _ _ _ h => h)) (pa_cons (pv 2) (pa_cons (pv 1) pa_nil))) (pa_cons (pcallX ccheck_word hr (L2N.passes_call (L2N.takes_of rfl rfl rfl rfl) (fun _ _ _ _ h => h)) (pa_cons (pv 3) (pa_cons (pv 1) pa_nil))) pa_nil))) rfl)
    (pss_cons (ps_if (pt_not (pt_chain op_le op_le pe_int (pv 4) (pe_con (pv 0) rfl))) (pss_one (L2N.ps_raise rfl (L2N.takes_of rfl rfl rfl rfl) (L2N.pmk_xm X.l hr X.mL X.sup (pa_cons (pe_con (pv 0) rfl) pa_nil)))) pss_nil)
    (pss_cons (ps_fld (pv 0) (pv 4) rfl)
    (pss_one (ps_fld (pv 0) (pe_tup pa_nil) rfl)))))), ?_⟩
  refine ⟨_, rfl, al, rfl, za, fun hA => ?_, eA⟩
  obtain ⟨eU, q⟩ := q hA
  refine ⟨_, rfl, p, C, dx, _, rfl, hp, T.cl, T.nL, (by show 0 < 1000; decide), ?_⟩
  have b0 : But p H (upd H p (.ins C dx (putF "letters" (.str (S al)) []))) := fun a o na ho => by rw [upd_ne na]; exact ho
  refine ⟨_, rfl, _, rfl, u, al, rfl, zu, fun hu H1 s1 => ?_, fun i x h1 h2 h3 => (eU i ⟨x, h1, h2, h3⟩).lift b0 upd_same⟩
  obtain ⟨eV, q⟩ := q hu
  have b1 : But p H H1 := fun a o na ho => s1 a o (b0 a o na ho)
  refine ⟨_, rfl, _, rfl, v, al, rfl, zv, fun hv H2 s2 => ?_, fun i x h1 h2 h3 => (eV i ⟨x, h1, h2, h3⟩).lift b1 (s1 p _ upd_same)⟩
  obtain ⟨eR, q⟩ := q hv
  have h2 := (s1.trans s2) p _ upd_same
  have b2 : But p H H2 := fun a o na ho => s2 a o (b1 a o na ho)
  refine ⟨by show 2 ≤ sizeLine; decide, fun wt hwt => ?_⟩
  have nw : p ≠ wt := ne_of_none h2 hwt
  refine ⟨_, rfl, p, C, dx, _, rfl, by rw [upd_ne nw]; exact h2, T.cl, T.nW, (by show 1 < 1000; decide), ?_⟩
  have b3 : But p H (upd (upd H2 wt (.tup [.str (S u), .str (S v)])) p (.ins C dx (putF "words" (.ref wt) (putF "letters" (.str (S al)) [])))) := fun a o na ho => by
    have := b2 a o na ho
    rw [upd_ne na, upd_ne (ne_of_none this hwt)]
    exact this
  refine ⟨_, rfl, _, _, rfl, rfl, _, rfl, ?_⟩
  refine ite2 (fun h0 => ?_) (fun h0 => ⟨_, rfl, ite2 (fun _ => ⟨_, rfl, p, C, dx, _, _, uc, rfl, upd_same, T.cl, hcon, by rw [gf1, gf2] <;> rfl, _, rfl, fun d hd => (eR fun z => h0 (decide_eq_true z.1)).go b3 upd_same hd⟩) (fun e => absurd rfl e)⟩)
  have r0 : 0 ≤ r := of_decide_eq_true h0
  refine ⟨_, rfl, p, C, dx, _, _, uc, rfl, upd_same, T.cl, hcon, by rw [gf1, gf2] <;> rfl, _, _, rfl, rfl, _, rfl, ?_⟩
  refine ite2 (fun e => ?_) (fun e => ?_)
  · exact ⟨_, rfl, p, C, dx, _, _, uc, rfl, upd_same, T.cl, hcon, by rw [gf1, gf2] <;> rfl, _, rfl, fun d hd => (eR fun z => decF e z.2).go b3 upd_same hd⟩
  have r3 : r ≤ 3 := decT e
  refine ⟨_, rfl, _, rfl, p, C, dx, _, rfl, upd_same, T.cl, T.nR, by rw [gf1, gf2]; show 2 < 1000; decide, ?_⟩
  refine ⟨Nat.zero_le _, fun pt hpt => ?_⟩
  have np : p ≠ pt := ne_of_none upd_same hpt
  refine ⟨_, rfl, p, C, dx, _, rfl, by rw [upd_ne np]; exact upd_same, T.cl, T.nP, by rw [gf1, gf2, gf3]; show 3 < 1000; decide, ?_⟩
  have nwp : wt ≠ pt := by
    intro e
    subst e
    rw [upd_ne (Ne.symm nw), upd_ne (Ne.symm nw), upd_same] at hpt
    cases hpt
  refine q r0 r3 _ wt pt (fun b o nb ho => ?_) (by rw [upd_same, gf1, gf2, gf3, gf4]) (by rw [upd_ne (Ne.symm nw), upd_ne nwp, upd_ne (Ne.symm nw), upd_ne (Ne.symm nw), upd_same]) (by rw [upd_ne (Ne.symm np), upd_same])
  have ho2 := b2 b o nb ho
  have nbw : b ≠ wt := ne_of_none ho2 hwt
  have ho3 : (upd (upd (upd H2 wt (.tup [.str (S u), .str (S v)])) p (.ins C dx (putF "words" (.ref wt) (putF "letters" (.str (S al)) [])))) p (.ins C dx (putF "rounds" (.int r) (putF "words" (.ref wt) (putF "letters" (.str (S al)) []))))) b = some o := by
    rw [upd_ne nb, upd_ne nb, upd_ne nbw]
    exact ho2
  rw [upd_ne nb, upd_ne (ne_of_none ho3 hpt)]
  exact ho3
end
end W8

set_option Elab.async false
set_option linter.all false
set_option maxRecDepth 100000
set_option maxHeartbeats 4000000
namespace L2N
open PySem PySem.Spec PyProof.Rows L2
/-- o.m(..), what may be let out told by the slots -/
def tMethS (C : Addr) (m : Str) (sp : Sp) (E : St → XK) (ta : TE) (t : TA) : TE := fun σ H Q => ta σ H fun x H1 => ∃ a dx fs, x = .ref a ∧ H1 a = some (.ins C dx fs) ∧ fs.lookup m = none ∧
  t σ H1 fun vs H2 => sp (x :: vs) H2 Q (E σ)
def tMakeS (C : Addr) (sp : Sp) (E : St → XK) (t : TA) : TE := fun σ H Q => t σ H fun vs H1 => ∀ x dx, H1 x = none → H1 dx = none → dx ≠ x →
  sp (.ref x :: vs) (upd (upd H1 dx (.own x)) x (.ins C dx [])) (fun v H2 => v = .non ∧ Q (.ref x) H2) (E σ)
section
variable {X : Cx} {CX : CXT} {k : Nat} {f C : Addr} {fd : FuncData} {ps : List Str} {sp : Sp} {E : St → XK} {x m : Str} {p pos apos : Pos} {e o : Expr} {es : List Expr} {ta : TE} {t : TA}
theorem pe_methS {pl : Sem Bool} (he : PE X o ta) (c : Cls X.K C) (hm : Meth X.K C m f) (F : FnOk X.prog X.w X.K X.mg X.base CX k f fd ps sp) (hr : Room k X.A) (hb : Binds X.K fd ps []) (hx : ∀ σ, PassesAt CX X σ (E σ)) (ha : PA X (e :: es) t)
    (hst : starEach (e :: es) X.env = (false, eval e X.env) :: starEach es X.env := by rfl) (hpl : (backTo pos (starEach es X.env)).any (·.1) = false := by rfl)
    (ht : eval (.Call (.Attribute o m apos) (e :: es) [] pos) X.env = (do
      let ov ← eval o X.env
      standAt apos.atName
      let (f, first) ← holding [ov] (getMethod ov m pl)
      callWith pos f first (backTo pos (starEach (e :: es) X.env)) (backToKw pos (keywordEach [] X.env))) := by rfl) :
    PE X (.Call (.Attribute o m apos) (e :: es) [] pos) (tMethS C m sp E ta t) := by
  refine ⟨fun pins s σ H Q I h => ?_⟩
  refine PySem.W.methodCall_KW (pl := pl) (thn (he.run pins s σ H _ I h) fun u s1 ⟨x, H1, I1, rx, a, dx, fs, ex, ea, l, q⟩ => ?_) ht
  subst ex
  obtain rfl : u = Value.ref a := rx
  refine getmeth_ok I1 ea c hm l ?_
  refine PySem.W.callWith_K (first := [.ref a]) (h₀ := X.base) I.ok.mod.kin hm.kp (thn (ha.run pos pins s1 σ H1 _ I1 q) fun us s2 ⟨vs, H2, I2, r, q2⟩ => ⟨I2.kIn, ?_⟩) hst hpl
  exact run_fnS (us := .ref a :: us) (vs := .ref a :: vs) F hr hb (hx σ) I2 (.cons rfl r) q2
theorem run_makeS {pins : List (Addr × Obj)} {σ : St} {H : Hp} {s : Shared} {Q : VK} {us : List Value} {vs : List V} (M : Mk X.K C f) (F : FnOk X.prog X.w X.K X.mg X.base CX k f fd ps sp) (hr : Room (k + 1) X.A) (hb : Binds X.K fd ps [])
    (hx : PassesAt CX X σ (E σ)) (I : Inv X pins σ H s) (r : Vals vs us)
    (h : ∀ x dx, H x = none → H dx = none → dx ≠ x → sp (.ref x :: vs) (upd (upd H dx (.own x)) x (.ins C dx [])) (fun v H2 => v = .non ∧ Q (.ref x) H2) (E σ)) :
    wpAny (model X.prog X.w) X.A (call (.ref C) us) (EP X pins σ Q) X.xe s := by
  have hq := h (s.heap.objs.size + 1) s.heap.objs.size (I.hok.fresh (Nat.le_succ _)) (I.hok.fresh (Nat.le_refl _)) (Nat.ne_of_lt (Nat.lt_succ_self _))
  have I2 := Inv.made (C := C) I
  have r2 : Vals (V.ref (s.heap.objs.size + 1) :: vs) (Value.ref (s.heap.objs.size + 1) :: us) := .cons rfl r
  have hl : (Value.ref (s.heap.objs.size + 1) :: us).length = ps.length := by
    have e := r2.length
    rw [F.len _ _ _ _ hq] at e
    exact e.symm
  have b := hb (s := _) (Value.ref (s.heap.objs.size + 1) :: us) I2.kIn (by rw [List.append_nil]; exact hl)
  rw [List.append_nil] at b
  refine wpAny_call (make_map (f := f) I.kIn M.makes M.init (beq_iff_eq.mp M.fn) (codeAny_mono (F.run _ X.stack _ _ ⟨Value.ref (s.heap.objs.size + 1) :: us, []⟩ (Value.ref (s.heap.objs.size + 1) :: us) _ _ (E σ) (hr.make C us [])
    (I2.env0.make C us []) b r2 hq) fun r s' hq' => ?_))
  cases r with
  | error e => exact hx pins _ _ e s' I2 hq'
  | ok fl =>
    cases fl with
    | ret u =>
      obtain ⟨v, H', I3, rv, ev, q3⟩ := I2.after hq'
      subst ev
      exact ⟨rv, ⟨V.ref (s.heap.objs.size + 1), H', I3, rfl, q3⟩⟩
    | next => exact False.elim hq'
    | brk => exact False.elim hq'
    | cont => exact False.elim hq'
theorem pe_makeS (M : Mk X.K C f) (F : FnOk X.prog X.w X.K X.mg X.base CX k f fd ps sp) (hr : Room (k + 1) X.A) (hg : Gl X x) (hm : X.mg x = some (.ref C)) (hb : Binds X.K fd ps []) (hx : ∀ σ, PassesAt CX X σ (E σ))
    (ha : PA X (e :: es) t) (hdb : (x == ("__debug__" : Str)) = false := by decide) (he : starEach (e :: es) X.env = (false, eval e X.env) :: starEach es X.env := by rfl) (hpl : (backTo pos (starEach es X.env)).any (·.1) = false := by rfl) :
    PE X (.Call (.Name x p) (e :: es) [] pos) (tMakeS C sp E t) := by
  refine ⟨fun pins s σ H Q I h => ?_⟩
  refine wpAny_Call_Name_kw (ld_glob I hg hm ?_ hdb)
  refine PySem.W.callWith_K (h₀ := X.base) I.ok.mod.kin M.kp (thn (ha.run pos pins s σ H _ I h) fun us s1 ⟨vs, H1, I1, r, q⟩ => ⟨I1.kIn, ?_⟩) he hpl
  exact run_makeS M F hr hb (hx σ) I1 r q
end
end L2N

set_option Elab.async false
set_option linter.all false
set_option maxRecDepth 100000
set_option maxHeartbeats 4000000
namespace L2N
open PySem PySem.Spec PyProof.Rows L2
def noW : WX := fun _ _ _ _ => False
theorem takes_no {X : Cx} : Takes X noW := fun u s' ⟨a, B, sI, pins, σ, H, cls, d, e, I, nb, up, sky, na, os, ag, w⟩ => False.elim w
end L2N
namespace W8
open PySem PySem.Spec PyProof.Rows L2 L2E NK GM
/-- _law_classes, by its name -/
structure CalE (P : Program) (w : World) (K : PySem.W.Frag) (mg : Str → Option Value) (base : Heap) (c : Nat → Addr) : Prop where
  ex : ∃ (f : Addr) (fd : FuncData), FnE P w K mg base 1 f fd ["e"] (spClasses K c) ∧ mg "_law_classes" = some (.ref f) ∧ PySem.W.keepIn K (.ref f) = true ∧ Binds K fd ["e"] []
/-- what the class c k tells -/
structure TellC (K : PySem.W.Frag) (c : Nat → Addr) (k : Nat) (names : List Str) : Prop where
  exc : ExcC K (c k)
  is : ∃ bs, IsOf K c (c k) bs ∧ pick clsNames bs = names
  xf : XfC K (c k)
structure TryT (K : PySem.W.Frag) (mg : Str → Option Value) (c : Nat → Addr) : Prop where
  t2 : TellC K c 2 ["ValueError", "ToolError", "LettersError"]
  t7 : TellC K c 7 ["ValueError", "ToolError", "LetterError"]
  t8 : TellC K c 8 ["ValueError", "ToolError", "StateError"]
  t15 : TellC K c 15 ["ValueError", "ToolError", "LimitError"]
  f7 : PySem.W.findIn K (.ref (c 7)) "index" = some none
  f8 : PySem.W.findIn K (.ref (c 8)) "state" = some none
  f15 : PySem.W.findIn K (.ref (c 15)) "limit" = some none
  m1 : mg "ToolError" = some (.ref (c 1))
  m7 : mg "LetterError" = some (.ref (c 7))
  m8 : mg "StateError" = some (.ref (c 8))
  m15 : mg "LimitError" = some (.ref (c 15))
  e77 : PySem.W.exmOne K (.ref (c 7)) (.ref (c 7)) = some true
  e88 : PySem.W.exmOne K (.ref (c 8)) (.ref (c 8)) = some true
  eFF : PySem.W.exmOne K (.ref (c 15)) (.ref (c 15)) = some true
  e8F : PySem.W.exmOne K (.ref (c 8)) (.ref (c 15)) = some false
  eF7 : PySem.W.exmOne K (.ref (c 15)) (.ref (c 7)) = some false
  e27 : PySem.W.exmOne K (.ref (c 2)) (.ref (c 7)) = some false
  e2F : PySem.W.exmOne K (.ref (c 2)) (.ref (c 15)) = some false
  e21 : PySem.W.exmOne K (.ref (c 2)) (.ref (c 1)) = some true
/-- a new list of these is handed back -/
def Told (Q : VK) (H : Hp) (xs : List V) : Prop := ∀ l H', Same H H' → H' l = some (.lst xs) → Q (.ref l) H'
theorem Told.mono {Q : VK} {H H1 : Hp} {xs : List V} (h : Told Q H xs) (s : Same H H1) : Told Q H1 xs := fun l H' s' e => h l H' (s.trans s') e
/-- one clause: _law_classes(e) + [e.f] -/
def tClause (K : PySem.W.Frag) (c : Nat → Addr) (a : Addr) (cls : Value) (d : Option Addr) (k : Nat) (f : Str) (ta tb : TE) : TE := tOp rCat (tCallE (spClasses K c) a cls d (tCons ta tNil)) (tLst (tCons (tXf a cls d (c k) f tb) tNil))
theorem clause_ok {K : PySem.W.Frag} {c : Nat → Addr} {a d : Addr} {k i : Nat} {f : Str} {v : V} {names : List Str} {σ : L2.St} {H : Hp} {Q : VK} (T : TellC K c k names) (hn : names.length ≤ 100) (hd : H d = some (.xd [(f, v)])) (hs : σ[i]? = some (some (.ref a)))
    (q : Told Q H (names.map V.str ++ [v])) : tClause K c a (.ref (c k)) (some d) k f (tVar i) (tVar i) σ H Q := by
  obtain ⟨bs, hbs, rfl⟩ := T.is
  refine ⟨_, hs, c k, bs, rfl, rfl, T.exc, hbs, (fun dd e => ⟨_, (Option.some.inj e) ▸ hd⟩), fun l H1 s1 h1 => ?_⟩
  have hd1 := s1 _ _ hd
  refine ⟨_, hs, rfl, rfl, d, _, v, rfl, hd1, ?_, by show 1 ≤ sizeLine; decide, fun l2 hl2 => ?_⟩
  · rw [List.lookup_cons]
    simp
  have s2 := same_new hl2 (.lst [v])
  refine ⟨l, l2, _, _, rfl, rfl, s2 _ _ h1, upd_same, ?_, fun r hr => q r _ (s1.trans (s2.trans (same_new hr _))) upd_same⟩
  rw [List.length_map]
  exact sz (by show _ + 1 ≤ _; omega)
theorem clause0_ok {K : PySem.W.Frag} {c : Nat → Addr} {a : Addr} {k i : Nat} {names : List Str} {σ : L2.St} {H : Hp} {Q : VK} (T : TellC K c k names) (hs : σ[i]? = some (some (.ref a)))
    (q : Told Q H (names.map V.str)) : tCallE (spClasses K c) a (.ref (c k)) none (tCons (tVar i) tNil) σ H Q := by
  obtain ⟨bs, hbs, rfl⟩ := T.is
  exact ⟨_, hs, c k, bs, rfl, rfl, T.exc, hbs, (fun dd e => nomatch e), fun l H1 s1 h1 => q l H1 s1 h1⟩
abbrev eL : List V := [.str "ValueError", .str "ToolError", .str "LimitError"]
abbrev eS : List V := [.str "ValueError", .str "ToolError", .str "StateError"]
abbrev eT : List V := [.str "ValueError", .str "ToolError", .str "LetterError"]
/-- what is told of a fault of a choice, and what else -/
def ChoiceT (Q : VK) (H : Hp) (u v : List Nat) (r : Nat) (prs : Prs) (s x : Int) (ok : Nat → Nat → Prop) : Prop :=
  (prs.length = r → Told Q H (eL ++ [.int (r : Int)])) ∧ (prs.length < r → ¬ (s = 0 ∨ s = 1) → Told Q H (eS ++ [.int s])) ∧
    (prs.length < r → ∀ n : Nat, n ≤ 1 → s = (n : Int) → ¬ (0 ≤ x ∧ x ≤ ((wd u v n).length : Int)) → Told Q H (eS ++ [.int x])) ∧
    (prs.length < r → ∀ n m : Nat, n ≤ 1 → s = (n : Int) → x = (m : Int) → m ≤ (wd u v n).length → ok n m)
/-- the two clauses -/
abbrev lsF (K : PySem.W.Frag) (c : Nat → Addr) (i : Nat) : List (Value × Nat × (Addr → Value → Option Addr → TS)) :=
  [(.ref (c 15), i, fun a cls d => tRet (tClause K c a cls d 15 "limit" (tVar i) (tVar i))), (.ref (c 8), i, fun a cls d => tRet (tClause K c a cls d 8 "state" (tVar i) (tVar i)))]
theorem eF {K : PySem.W.Frag} {mg : Str → Option Value} {c : Nat → Addr} {D : Ends} {σ : L2.St} {H : Hp} {v : V} (Y : TryT K mg c) (i : Nat) (hs : ∀ a, (σ.set i (some (.ref a)))[i]? = some (some (.ref a))) (ht : Told (fun x H' => D.rt x H') H (eL ++ [v])) :
    ErrF (WE (L2N.wManyA K L2N.noW D (lsF K c i)) σ) (c 15) "limit" v H := fun d H' s n e =>
    ⟨true, Y.eFF, fun _ a ha => clause_ok Y.t15 (by decide) e (hs a) (ht.mono s), fun h => nomatch h⟩
theorem eF2 {K : PySem.W.Frag} {mg : Str → Option Value} {c : Nat → Addr} {D : Ends} {σ : L2.St} {H : Hp} {v : V} (Y : TryT K mg c) (i : Nat) (hs : ∀ a, (σ.set i (some (.ref a)))[i]? = some (some (.ref a))) (ht : Told (fun x H' => D.rt x H') H (eS ++ [v])) :
    ErrF (WE (L2N.wManyA K L2N.noW D (lsF K c i)) σ) (c 8) "state" v H := fun d H' s n e =>
    ⟨false, Y.e8F, (fun h => nomatch h), fun _ => ⟨true, Y.e88, fun _ a ha => clause_ok Y.t8 (by decide) e (hs a) (ht.mono s), fun h => nomatch h⟩⟩
abbrev sPlayed : Stmt := top 45
theorem scPlayed : FnScope ["game", "side", "place", "answer", "e"] ["game", "side", "place", "answer"] (defScope sPlayed) := ⟨rfl, rfl, rfl, by decide +kernel, rfl, by decide +kernel, by decide +kernel⟩
def spPlayed (C : Addr) : Sp := fun vs H Q _ => ∃ (p dx wt pt : Addr) (al u v : List Nat) (r : Nat) (s x y : Int) (prs : Prs) (qs : List Addr), vs = [.ref p, .int s, .int x, .int y] ∧ GameSt H p C dx wt pt al u v r prs qs ∧ u.length ≤ 60 ∧ v.length ≤ 60 ∧ r ≤ 3 ∧ prs.length ≤ r ∧
  ChoiceT Q H u v r prs s x fun n m => (¬ (0 ≤ y ∧ y ≤ ((wd u v (1 - n)).length : Int)) → Told Q H (eS ++ [.int y])) ∧
    ∀ k : Nat, y = (k : Int) → k ≤ (wd u v (1 - n)).length → ∀ l H' pt' qs', But p H H' → GameSt H' p C dx wt pt' al u v r (prs ++ [mkp n m k]) qs' → H' l = some (.lst [.non]) → Q (.ref l) H'
section
variable {P : Program} {w : World} {K : PySem.W.Frag} {mg : Str → Option Value} {base : Heap}
theorem ok_played {c : Nat → Addr} {f C : Addr} {fd : FuncData} (F : Fun K "_law_played" "_law_played" sPlayed f fd) (Y : TryT K mg c) (T : GameT K mg C) (ce : CalE P w K mg base c) (cp : MCalX P w K mg base C "play" 5 ["self", "side", "place", "answer"] (spPlayX c C)) :
    FnOk P w K mg base CX0 6 f fd ["game", "side", "place", "answer"] (spPlayed C) := by
  refine F.ok scPlayed (fun vs H Q E h => ?_) (fun cdv A outer s H vs Q E hr h => ?_)
  · obtain ⟨p, dx, wt, pt, al, u, v, r, s, x, y, prs, qs, rfl, _⟩ := h
    rfl
  obtain ⟨p, dx, wt, pt, al, u, v, r, sd, x, y, prs, qs, rfl, G, hu, hv, hr3, hp, ch⟩ := h
  obtain ⟨f1, fd1, F1, m1, b1⟩ := cp.ex
  obtain ⟨f2, fd2, F2, g2, k2, b2⟩ := ce.ex
  refine ⟨_, pss_one (L2N.ps_try_manyA rfl rfl scPlayed.nd L2N.takes_no
    (fun W pn xe tk lv => pss_one (ps_ret (pe_lst (pa_cons (L2N.pe_methS (pv 0) T.cl m1 F1 hr b1 (fun σ => L2N.passAt tk σ) (pa_cons (pv 1) (pa_cons (pv 2) (pa_cons (pv 3) pa_nil)))) pa_nil))))
    (L2N.HdsA.cons (i := 4) ⟨by rfl, by decide, .inl Y.m15⟩ rfl rfl (fun a oe cls d pn hz hd => pss_one (ps_ret (pe_op op_cat (pe_callE F2 ((L2H.roomH_of hr).mono (by decide)) hz hd (by rfl) g2 k2 b2 (pa_cons (pv 4) pa_nil)) (pe_lst (pa_cons (pe_xf Y.t15.xf Y.f15 hz.zc hd (pv 4)) pa_nil)))))
    (L2N.HdsA.cons (i := 4) ⟨by rfl, by decide, .inl Y.m8⟩ rfl rfl (fun a oe cls d pn hz hd => pss_one (ps_ret (pe_op op_cat (pe_callE F2 ((L2H.roomH_of hr).mono (by decide)) hz hd (by rfl) g2 k2 b2 (pa_cons (pv 4) pa_nil)) (pe_lst (pa_cons (pe_xf Y.t8.xf Y.f8 hz.zc hd (pv 4)) pa_nil)))))
    L2N.HdsA.nil))), ?_⟩
  refine ⟨_, rfl, p, dx, _, rfl, G.o, gf_no _ _ _ _ (by decide +kernel), _, rfl, _, rfl, _, rfl, p, dx, wt, pt, al, u, v, r, sd, x, y, prs, qs, rfl, G, hu, hv, hr3, hp, ?_⟩
  refine ⟨fun h1 => eF Y 4 (fun _ => rfl) (ch.1 h1), fun h1 h2 => eF2 Y 4 (fun _ => rfl) (ch.2.1 h1 h2), fun h1 n h2 h3 h4 => eF2 Y 4 (fun _ => rfl) (ch.2.2.1 h1 n h2 h3 h4), fun h1 n m h2 h3 h4 h5 => ?_⟩
  obtain ⟨eY, q⟩ := ch.2.2.2 h1 n m h2 h3 h4 h5
  refine ⟨fun hy => eF2 Y 4 (fun _ => rfl) (eY hy), fun k h6 h7 H' pt' qs' b g => ?_⟩
  refine ⟨by show 1 ≤ sizeLine; decide, fun l hl => ?_⟩
  exact q k h6 h7 l _ pt' qs' (fun a o na ho => same_new hl _ _ _ (b a o na ho)) (g.mono (same_new hl _)) upd_same
end
end W8

set_option Elab.async false
set_option linter.all false
set_option maxRecDepth 100000
set_option maxHeartbeats 4000000
namespace W8
open PySem PySem.Spec PyProof.Rows L2 L2E NK GM
abbrev sReplied : Stmt := top 46
theorem scReplied : FnScope ["game", "side", "place", "e"] ["game", "side", "place"] (defScope sReplied) := ⟨rfl, rfl, rfl, by decide +kernel, rfl, by decide +kernel, by decide +kernel⟩
def spReplied (C : Addr) : Sp := fun vs H Q _ => ∃ (p dx wt pt : Addr) (al u v : List Nat) (r : Nat) (s x : Int) (prs : Prs) (qs : List Addr), vs = [.ref p, .int s, .int x] ∧ GameSt H p C dx wt pt al u v r prs qs ∧ u.length ≤ 60 ∧ v.length ≤ 60 ∧ r ≤ 3 ∧ prs.length ≤ r ∧ Inb u.length v.length prs ∧
  ChoiceT Q H u v r prs s x fun n m => ∀ o, ReplyIs (r - prs.length - 1) u v prs n m o → Told Q H [optN o]
abbrev sBegun : Stmt := top 47
theorem scBegun : FnScope ["letters", "one", "other", "rounds", "e"] ["letters", "one", "other", "rounds"] (defScope sBegun) := ⟨rfl, rfl, rfl, by decide +kernel, rfl, by decide +kernel, by decide +kernel⟩
abbrev eA : List V := [.str "ValueError", .str "ToolError", .str "LettersError"]
def spBegun : Sp := fun vs H Q _ => ∃ (al u v : List Nat) (r : Int), vs = [.str (S al), .str (S u), .str (S v), .int r] ∧ al.length ≤ 1000 ∧ u.length ≤ 1000 ∧ v.length ≤ 1000 ∧
  (¬ AlphOk al → Told Q H eA) ∧
  (AlphOk al → (∀ i : Nat, BadAt u al i → Told Q H (eT ++ [.int (i : Int)])) ∧ ((∀ x ∈ u, x ∈ al) → (∀ i : Nat, BadAt v al i → Told Q H (eT ++ [.int (i : Int)])) ∧ ((∀ x ∈ v, x ∈ al) →
    (¬ (0 ≤ r ∧ r ≤ 3) → Told Q H (eL ++ [.int 3])) ∧ (0 ≤ r → r ≤ 3 → Told Q H []))))
abbrev lsB (K : PySem.W.Frag) (c : Nat → Addr) (i : Nat) : List (Value × Nat × (Addr → Value → Option Addr → TS)) :=
  [(.ref (c 7), i, fun a cls d => tRet (tClause K c a cls d 7 "index" (tVar i) (tVar i))), (.ref (c 15), i, fun a cls d => tRet (tClause K c a cls d 15 "limit" (tVar i) (tVar i))), (.ref (c 1), i, fun a cls d => tRet (tCallE (spClasses K c) a cls d (tCons (tVar i) tNil)))]
theorem eB {K : PySem.W.Frag} {mg : Str → Option Value} {c : Nat → Addr} {D : Ends} {σ : L2.St} {H0 H : Hp} {p : Addr} {v : V} (Y : TryT K mg c) (i : Nat) (hs : ∀ a, (σ.set i (some (.ref a)))[i]? = some (some (.ref a))) (up : ∀ {H'}, But p H H' → Same H0 H') (ht : Told (fun x H' => D.rt x H') H0 (eT ++ [v])) :
    ErrB (WE (L2N.wManyA K L2N.noW D (lsB K c i)) σ) (c 7) "index" v p H := fun d H' b n e =>
    ⟨true, Y.e77, fun _ a ha => clause_ok Y.t7 (by decide) e (hs a) (ht.mono (up b)), fun h => nomatch h⟩
section
variable {P : Program} {w : World} {K : PySem.W.Frag} {mg : Str → Option Value} {base : Heap}
theorem ok_replied {c : Nat → Addr} {f C : Addr} {fd : FuncData} (F : Fun K "_law_replied" "_law_replied" sReplied f fd) (Y : TryT K mg c) (T : GameT K mg C) (ce : CalE P w K mg base c) (cp : MCalX P w K mg base C "reply" 7 ["self", "side", "place"] (spReplyX c C)) :
    FnOk P w K mg base CX0 8 f fd ["game", "side", "place"] (spReplied C) := by
  refine F.ok scReplied (fun vs H Q E h => ?_) (fun cdv A outer s H vs Q E hr h => ?_)
  · obtain ⟨p, dx, wt, pt, al, u, v, r, s, x, prs, qs, rfl, _⟩ := h
    rfl
  obtain ⟨p, dx, wt, pt, al, u, v, r, sd, x, prs, qs, rfl, G, hu, hv, hr3, hp, hin, ch⟩ := h
  obtain ⟨f1, fd1, F1, m1, b1⟩ := cp.ex
  obtain ⟨f2, fd2, F2, g2, k2, b2⟩ := ce.ex
  refine ⟨_, pss_one (L2N.ps_try_manyA rfl rfl scReplied.nd L2N.takes_no
    (fun W pn xe tk lv => pss_one (ps_ret (pe_lst (pa_cons (L2N.pe_methS (pv 0) T.cl m1 F1 hr b1 (fun σ => L2N.passAt tk σ) (pa_cons (pv 1) (pa_cons (pv 2) pa_nil))) pa_nil))))
    (L2N.HdsA.cons (i := 3) ⟨by rfl, by decide, .inl Y.m15⟩ rfl rfl (fun a oe cls d pn hz hd => pss_one (ps_ret (pe_op op_cat (pe_callE F2 ((L2H.roomH_of hr).mono (by decide)) hz hd (by rfl) g2 k2 b2 (pa_cons (pv 3) pa_nil)) (pe_lst (pa_cons (pe_xf Y.t15.xf Y.f15 hz.zc hd (pv 3)) pa_nil)))))
    (L2N.HdsA.cons (i := 3) ⟨by rfl, by decide, .inl Y.m8⟩ rfl rfl (fun a oe cls d pn hz hd => pss_one (ps_ret (pe_op op_cat (pe_callE F2 ((L2H.roomH_of hr).mono (by decide)) hz hd (by rfl) g2 k2 b2 (pa_cons (pv 3) pa_nil)) (pe_lst (pa_cons (pe_xf Y.t8.xf Y.f8 hz.zc hd (pv 3)) pa_nil)))))
    L2N.HdsA.nil))), ?_⟩
  refine ⟨_, rfl, p, dx, _, rfl, G.o, gf_no _ _ _ _ (by decide +kernel), _, rfl, _, rfl, p, dx, wt, pt, al, u, v, r, sd, x, prs, qs, rfl, G, hu, hv, hr3, hp, hin, ?_⟩
  refine ⟨fun h1 => eF Y 3 (fun _ => rfl) (ch.1 h1), fun h1 h2 => eF2 Y 3 (fun _ => rfl) (ch.2.1 h1 h2), fun h1 n h2 h3 h4 => eF2 Y 3 (fun _ => rfl) (ch.2.2.1 h1 n h2 h3 h4), fun h1 n m h2 h3 h4 h5 o H' s' ho => ?_⟩
  refine ⟨by show 1 ≤ sizeLine; decide, fun l hl => ?_⟩
  exact ch.2.2.2 h1 n m h2 h3 h4 h5 o ho l _ (s'.trans (same_new hl _)) upd_same
theorem ok_begun {c : Nat → Addr} {f C fI : Addr} {fd fdI : FuncData} (F : Fun K "_law_begun" "_law_begun" sBegun f fd) (Y : TryT K mg c) (T : GameT K mg C) (ce : CalE P w K mg base c) (M : Mk K C fI) (GI : FnOk P w K mg base (L2N.CX P w) 4 fI fdI ["self", "letters", "one", "other", "rounds"] (spInitX c C)) (bI : Binds K fdI ["self", "letters", "one", "other", "rounds"] []) :
    FnOk P w K mg base CX0 6 f fd ["letters", "one", "other", "rounds"] spBegun := by
  refine F.ok scBegun (fun vs H Q E h => ?_) (fun cdv A outer s H vs Q E hr h => ?_)
  · obtain ⟨al, u, v, r, rfl, _⟩ := h
    rfl
  obtain ⟨al, u, v, r, rfl, za, zu, zv, tA, q⟩ := h
  obtain ⟨f2, fd2, F2, g2, k2, b2⟩ := ce.ex
  refine ⟨_, pss_cons (L2N.ps_try_manyA rfl rfl scBegun.nd L2N.takes_no
    (fun W pn xe tk lv => pss_one (ps_expr (L2N.pe_makeS M GI (hr.mono (by decide)) (by rfl) T.mgC bI (fun σ => L2N.passAt tk σ) (pa_cons (pv 0) (pa_cons (pv 1) (pa_cons (pv 2) (pa_cons (pv 3) pa_nil)))))))
    (L2N.HdsA.cons (i := 4) ⟨by rfl, by decide, .inl Y.m7⟩ rfl rfl (fun a oe cls d pn hz hd => pss_one (ps_ret (pe_op op_cat (pe_callE F2 ((L2H.roomH_of hr).mono (by decide)) hz hd (by rfl) g2 k2 b2 (pa_cons (pv 4) pa_nil)) (pe_lst (pa_cons (pe_xf Y.t7.xf Y.f7 hz.zc hd (pv 4)) pa_nil)))))
    (L2N.HdsA.cons (i := 4) ⟨by rfl, by decide, .inl Y.m15⟩ rfl rfl (fun a oe cls d pn hz hd => pss_one (ps_ret (pe_op op_cat (pe_callE F2 ((L2H.roomH_of hr).mono (by decide)) hz hd (by rfl) g2 k2 b2 (pa_cons (pv 4) pa_nil)) (pe_lst (pa_cons (pe_xf Y.t15.xf Y.f15 hz.zc hd (pv 4)) pa_nil)))))
    (L2N.HdsA.cons (i := 4) ⟨by rfl, by decide, .inl Y.m1⟩ rfl rfl (fun a oe cls d pn hz hd => pss_one (ps_ret (pe_callE F2 ((L2H.roomH_of hr).mono (by decide)) hz hd (by rfl) g2 k2 b2 (pa_cons (pv 4) pa_nil))))
    L2N.HdsA.nil)))) (pss_one (ps_ret (pe_lst pa_nil))), ?_⟩
  refine ⟨_, rfl, _, rfl, _, rfl, _, rfl, fun p dx hp hdx nd => ?_⟩
  have hp0 : upd (upd H dx (.own p)) p (.ins C dx []) p = some (.ins C dx []) := upd_same
  have up : ∀ {H'}, But p (upd (upd H dx (.own p)) p (.ins C dx [])) H' → Same H H' := fun b a o ha => by
    have n1 : a ≠ p := ne_of_none ha hp
    exact b a o n1 (by rw [upd_ne n1, upd_ne (ne_of_none ha hdx)]; exact ha)
  refine ⟨p, dx, al, u, v, r, rfl, hp0, za, zu, zv, fun hA => ?_, fun hA => ?_⟩
  · refine ⟨false, Y.e27, (fun h => nomatch h), fun _ => ⟨false, Y.e2F, (fun h => nomatch h), fun _ => ⟨true, Y.e21, fun _ a ha => ?_, fun h => nomatch h⟩⟩⟩
    exact clause0_ok Y.t2 rfl ((tA hA).mono (up fun a o _ ha => ha))
  obtain ⟨tU, q⟩ := q hA
  refine ⟨fun i hi => eB Y 4 (fun _ => rfl) up (tU i hi), fun hU => ?_⟩
  obtain ⟨tV, q⟩ := q hU
  refine ⟨fun i hi => eB Y 4 (fun _ => rfl) up (tV i hi), fun hV => ?_⟩
  obtain ⟨tR, q⟩ := q hV
  refine ⟨fun hr' d H' b n e => ⟨false, Y.eF7, (fun h => nomatch h), fun _ => ⟨true, Y.eFF, fun _ a ha => clause_ok Y.t15 (by decide) e rfl ((tR hr').mono (up b)), fun h => nomatch h⟩⟩, fun r0 r3 H' wt pt b h1 h2 h3 => ⟨rfl, ?_⟩⟩
  refine ⟨Nat.zero_le _, fun l hl => ?_⟩
  exact q r0 r3 l _ ((up b).trans (same_new hl _)) upd_same
end
end W8

set_option Elab.async false
set_option linter.all false
set_option maxRecDepth 100000
set_option maxHeartbeats 4000000
namespace W8
open PySem L2 NK GM
abbrev sLPlain : Stmt := top 38
theorem scLPlain : FnScope ["word", "places", "letters", "order", "one", "other", "at"] ["word", "places"] (defScope sLPlain) := ⟨rfl, rfl, rfl, by decide +kernel, rfl, by decide +kernel, by decide +kernel⟩
theorem cut_lt (u : List Nat) {p : Nat} (hp : p ≤ u.length) : cutS (S u) (some (if (p : Int) - 1 > 0 then (p : Int) - 1 else 0)) (some (p : Int)) = S (ltS u p) := by
  unfold cutS
  have e : (if (p : Int) - 1 > 0 then (p : Int) - 1 else 0) = ((p - 1 : Nat) : Int) := by split <;> omega
  rw [e, HT.sIx_nat, HT.sIx_nat]
  have l : (S u).cps.toList = u := rfl
  rw [l, Nat.min_eq_left (show p - 1 ≤ (S u).length by rw [S_len]; omega), Nat.min_eq_left (show p ≤ (S u).length by rw [S_len]; omega)]
  unfold ltS
  by_cases h : p = 0
  · subst h
    rfl
  · rw [if_neg h]
    have e2 : p - (p - 1) = 1 := by omega
    rw [e2]
    have hlt : p - 1 < u.length := by omega
    rw [List.drop_eq_getElem_cons hlt, List.getD_eq_getElem?_getD, List.getElem?_eq_getElem hlt]
    rfl
section
variable {P : Program} {w : World} {K : PySem.W.Frag} {mg : Str → Option Value} {base : Heap}
theorem ok_lplain {f : Addr} {fd : FuncData} (F : Fun K "_law_plain" "_law_plain" sLPlain f fd) (tt : mg "tuple" = none) (ti : mg "int" = none) (tm : mg "max" = none) : FnOk P w K mg base CX0 1 f fd ["word", "places"] (spPlain K) := by
  refine F.ok scLPlain (fun vs H Q E h => ?_) (fun cdv A outer s H vs Q E hr h => ?_)
  · obtain ⟨u, ps, a, rfl, _⟩ := h
    rfl
  obtain ⟨u, ps, a, rfl, st, hle, hu, hps, q⟩ := h
  refine ⟨_, (pss_cons (ps_set (i := 2) scLPlain.nd rfl (Or.inl rfl) (pT1 (r := rTupOf K) cr_tupOf tt (pe_lc (own := [("at", 6)]) (g := gName 6) (tt := tYes) rfl scLPlain.nd (pi_tup (pv 1)) (blkOk_by (own := [("at", 6)]) (N := ["word", "places", "letters", "order", "one", "other", "at"]) (sc := defScope sLPlain) (by decide +kernel)) (fun _ _ _ _ _ => (pg_name (i := 6) scLPlain.nd rfl (Or.inl rfl))) (fun _ _ _ _ _ => pts_nil) (fun _ _ _ _ _ => (pe_op op_add_str pe_str (pe_slice sl_str (pv 0) (po_some (pe_callB (call_max2 rfl) (by rfl) tm (by decide +kernel) (pa_cons pe_int (pa_cons (pe_op op_sub (pv 6) pe_int) pa_nil)))) (po_some (pv 6))))))))
    (pss_cons (ps_set (i := 3) scLPlain.nd rfl (Or.inl rfl) (pe_lst pa_nil))
    (pss_cons (ps_for PassesOwn.never rfl (pi_tup (pv 1)) (pg_name (i := 4) scLPlain.nd rfl (Or.inl rfl))
      (pss_one (ps_for PassesOwn.never rfl (pi_tup (pv 1)) (pg_name (i := 5) scLPlain.nd rfl (Or.inl rfl))
        (pss_one (ps_expr (pe_bm PySem.F.plainAttrs_list PySem.F.slot_list_append PySem.F.type_list_append mt_append (pv 3) (pa_cons (pe_op op_sub (pT1 call_int1 ti (pe_cmpR op_gt (pv 4) (pv 5) (nomark _))) (pT1 call_int1 ti (pe_cmpR op_lt (pv 4) (pv 5) (nomark _)))) pa_nil)))))))
    (pss_one (ps_ret (pe_tup (pa_cons (pv 2) (pa_cons (pT1 (r := rTupOf K) cr_tupOf tt (pv 3)) pa_nil)))))))), ?_⟩
  have hlen : (ps.map natV).length = ps.length := List.length_map _
  refine ⟨_, rfl, a, rfl, ⟨_, st⟩, fun D hD => ?_⟩
  refine walk_t (xs := ps.map natV) (fun i H' => Same H H' ∧ H' D = some (.lst ((letsOf u (ps.take i)).map V.str))) ⟨same_new hD _, upd_same⟩ (fun i H' ⟨s3, _⟩ => seqT s3 st) ?_ ?_
  · rintro i x H1 hx ⟨s1, hD1⟩
    obtain ⟨x, hxi, rfl, hxm⟩ := get_map hx
    refine ⟨rfl, yes ?_⟩
    have hxl := hle x hxm
    have ec : cutS (S u) (some (if (x : Int) - 1 > 0 then (x : Int) - 1 else 0)) (some (x : Int)) = S (ltS u x) := cut_lt u hxl
    have ll : (ltS u x).length ≤ 1 := by unfold ltS; split <;> simp
    refine ⟨_, rfl, _, rfl, _, _, rfl, rfl, _, _, rfl, _, rfl, _, rfl, _, rfl, _, rfl, sz (by rw [S_len]; omega), _, _, rfl, rfl, sz ?_, ?_⟩
    · rw [ec, S_len]
      show 0 + (ltS u x).length ≤ 100000
      omega
    refine ⟨_, hD1, small_lt ?_, same_upd s1 hD, ?_⟩
    · unfold letsOf
      rw [List.length_map, List.length_map, List.length_take]
      omega
    · rw [upd_same, ec]
      unfold letsOf
      rw [take_map _ hxi, List.map_append]
      have e0 : ("" : Str) ++ S (ltS u x) = S (ltS u x) := by
        have : ("" : Str) = S [] := rfl
        rw [this, S_app]
        rfl
      rw [e0]
      rfl
  rintro H1 ⟨s1, hD1⟩
  rw [hlen, List.take_length] at hD1
  refine ⟨_, _, rfl, .inl ⟨SqL.of hD1, fun lt hlt => ?_⟩⟩
  have s2 := s1.trans (same_new hlt (.tup ((letsOf u ps).map V.str)))
  refine ⟨Nat.zero_le _, fun O hO => ?_⟩
  have hlt2 : (upd H1 lt (.tup ((letsOf u ps).map V.str))) lt = some (.tup ((letsOf u ps).map V.str)) := upd_same
  have st2 := seqT s2 st
  have hO0 : H O = none := s2.free hO
  refine ⟨_, rfl, a, rfl, ⟨_, seqT (same_new hO _) st2⟩, ?_⟩
  refine for_tup (K := K) (a := a) (xs := ps.map natV) (fun i σ H' => ∃ (y4 y5 : Option V), σ = [some (.str (S u)), some (.ref a), some (.ref lt), some (.ref O), y4, y5, none] ∧ Same (upd H1 lt (.tup ((letsOf u ps).map V.str))) H' ∧ H' O = some (.lst (((ps.take i).flatMap fun x => ps.map fun y => cmpI x y).map V.int))) ⟨none, none, rfl, same_new hO _, upd_same⟩ (fun i σ H' _ ⟨_, _, _, s3, _⟩ => seqT s3 st2) ?_ ?_
  · rintro i x σ H3 hx ⟨y4, y5, rfl, s3, hO3⟩
    obtain ⟨x, hxi, rfl, hxm⟩ := get_map hx
    refine ⟨_, rfl, a, rfl, ⟨_, seqT s3 st2⟩, ?_⟩
    refine for_tup (K := K) (a := a) (xs := ps.map natV) (fun j σ H' => ∃ (y5 : Option V), σ = [some (.str (S u)), some (.ref a), some (.ref lt), some (.ref O), some (natV x), y5, none] ∧ Same (upd H1 lt (.tup ((letsOf u ps).map V.str))) H' ∧ H' O = some (.lst ((((ps.take i).flatMap fun x => ps.map fun y => cmpI x y) ++ (ps.take j).map fun y => cmpI x y).map V.int))) ⟨_, rfl, s3, by rw [hO3]; simp⟩ (fun i σ H' _ ⟨_, _, s3, _⟩ => seqT s3 st2) ?_ ?_
    · rintro j y σ H4 hy ⟨y5, rfl, s4, hO4⟩
      obtain ⟨y, hyj, rfl, hym⟩ := get_map hy
      refine ⟨_, rfl, .inl ⟨rfl, _, SqL.of hO4⟩, _, rfl, _, rfl, _, _, rfl, rfl, .inr ⟨_, rfl, _, rfl, _, rfl, _, _, rfl, rfl, .inr ⟨_, rfl, _, _, rfl, rfl, ?_⟩⟩⟩
      refine ⟨_, _, _, rfl, rfl, hO4, small_lt ?_, _, rfl, same_upd s4 hO, ?_⟩
      · have e1 := ordTake_len ps i
        have e2 : ((ps.take j).map fun y => cmpI x y).length ≤ ps.length := by rw [List.length_map, List.length_take]; omega
        rw [List.length_map, List.length_append]
        have : ps.length * ps.length ≤ 10 * 10 := Nat.mul_le_mul hps hps
        omega
      · rw [upd_same, take_map _ hyj, ← List.append_assoc]
        rw [List.map_append (l₂ := [cmpI x y])]
        exact congrArg (fun z => some (HO.lst (_ ++ [z]))) (cmp_val x y)
    · rintro σ H4 ⟨y5, rfl, s4, hO4⟩
      refine ⟨_, _, rfl, s4, ?_⟩
      rw [hO4, flat_take _ hxi, hlen, List.take_length]
  · rintro σ H3 ⟨y4, y5, rfl, s3, hO3⟩
    rw [hlen, List.take_length] at hO3
    refine ⟨_, rfl, _, rfl, _, _, rfl, .inl ⟨SqL.of hO3, fun ot hot => ?_⟩⟩
    have s4 := same_new hot (.tup ((ordOf ps).map V.int))
    refine ⟨by show 2 ≤ sizeLine; decide, fun rt hrt => ?_⟩
    have s5 := same_new hrt (.tup [.ref lt, .ref ot])
    refine q rt _ (s2.trans (s3.trans (s4.trans s5))) ⟨[.ref lt, .ref ot], upd_same, .cons ⟨lt, rfl, ?_⟩ (.cons ⟨ot, rfl, ?_⟩ .nil)⟩
    · rw [s5 _ _ (s4 _ _ (s3 _ _ hlt2)), List.map_map]
      rfl
    · rw [s5 _ _ upd_same, List.map_map]
      rfl
  
end
end W8

set_option Elab.async false
set_option linter.all false
set_option maxRecDepth 100000
set_option maxHeartbeats 4000000
namespace W8
open PySem L2 NK GM
def bitsOf (ks : List Nat) : Nat := ks.foldl (fun b k => b ||| 2 ^ k) 0
theorem foldBits (j : Nat) : ∀ (ks : List Nat) (b : Nat), (ks.foldl (fun b k => b ||| 2 ^ k) b).testBit j = (b.testBit j || decide (j ∈ ks))
  | [], b => by simp
  | k :: ks, b => by
    rw [List.foldl_cons, foldBits j ks, Nat.testBit_or, Nat.testBit_two_pow]
    by_cases h : k = j
    · subst h
      simp
    · have h2 : ¬ j = k := fun e => h e.symm
      simp [h, h2]
theorem bits_iff (ks js : List Nat) : bitsOf ks = bitsOf js ↔ ∀ z : Nat, z ∈ ks ↔ z ∈ js := by
  have t : ∀ (l : List Nat) j, (bitsOf l).testBit j = decide (j ∈ l) := fun l j => by
    unfold bitsOf
    rw [foldBits j l 0, Nat.zero_testBit, Bool.false_or]
  constructor
  · intro h z
    have := t ks z
    rw [h, t js z] at this
    constructor
    · intro q
      rw [decide_eq_true q] at this
      exact of_decide_eq_true this
    · intro q
      rw [decide_eq_true q] at this
      exact of_decide_eq_true this.symm
  · intro h
    refine Nat.eq_of_testBit_eq fun j => ?_
    rw [t, t]
    exact decide_eq_decide.mpr (h j)
theorem bits_snoc (ks : List Nat) (k : Nat) : bitsOf (ks ++ [k]) = bitsOf ks ||| 2 ^ k := by
  unfold bitsOf
  rw [List.foldl_append]
  rfl
def bitK (r b : Nat) : List Itm := [.inl (.inl (r : Int)), .inl (.inl (b : Int))]
def NumB (D : List (List Itm)) : Nat → List Nat → List Nat → Nat → Prop
  | 0, u, ps, n => D[n]? = some (plainK u ps)
  | r + 1, u, ps, n => ∃ (ks : List Nat), ks.length = u.length + 1 ∧ (∀ a k, ks[a]? = some k → NumB D r u (ps ++ [a]) k) ∧ D[n]? = some (bitK (r + 1) (bitsOf ks))
theorem NumB.mono {D D' : List (List Itm)} (h : ∃ t, D' = D ++ t) : ∀ {r : Nat} {u ps : List Nat} {n : Nat}, NumB D r u ps n → NumB D' r u ps n
  | 0, _, _, _, e => get_prefix h e
  | r + 1, _, _, _, ⟨ks, h1, h2, h5⟩ => ⟨ks, h1, fun a k hk => NumB.mono h (h2 a k hk), get_prefix h h5⟩
theorem NumB.lt {D : List (List Itm)} : ∀ {r : Nat} {u ps : List Nat} {n : Nat}, NumB D r u ps n → n < D.length
  | 0, _, _, _, e => (List.getElem?_eq_some_iff.mp e).1
  | r + 1, _, _, _, ⟨ks, h1, h2, h5⟩ => (List.getElem?_eq_some_iff.mp h5).1
theorem numB_iff {D : List (List Itm)} (nd : D.Nodup) : ∀ {r : Nat} {u v : List Nat} {Z : Prs} {n m : Nat}, Inb u.length v.length Z → NumB D r u (Z.map (·.1)) n → NumB D r v (Z.map (·.2)) m → (n = m ↔ Win r u v Z)
  | 0, u, v, Z, n, m, b, hn, hm => (get_inj nd hn hm).trans (plain_iff b)
  | r + 1, u, v, Z, n, m, b, ⟨ks, k1, k2, k5⟩, ⟨js, j1, j2, j5⟩ => by
    have key : ∀ a c k j, ks[a]? = some k → js[c]? = some j → (k = j ↔ Win r u v ((a, c) :: Z)) := fun a c k j hk hj => by
      have ha := (List.getElem?_eq_some_iff.mp hk).1
      have hc := (List.getElem?_eq_some_iff.mp hj).1
      have q := numB_iff nd (r := r) (u := u) (v := v) (Z := Z ++ [(a, c)]) (n := k) (m := j) (fun x hx => by
        rcases List.mem_append.mp hx with e | e
        · exact b x e
        · rw [List.mem_singleton.mp e]
          exact ⟨by dsimp only; omega, by dsimp only; omega⟩) (by rw [List.map_append]; exact k2 a k hk) (by rw [List.map_append]; exact j2 c j hj)
      exact q.trans (win_snoc r u v Z (a, c))
    rw [get_inj nd k5 j5]
    have e1 : bitK (r + 1) (bitsOf ks) = bitK (r + 1) (bitsOf js) ↔ bitsOf ks = bitsOf js := ⟨fun h => by
      unfold bitK at h
      injection h with _ h
      injection h with h _
      have := Sum.inl.inj (Sum.inl.inj h)
      omega, fun h => by rw [h]⟩
    rw [e1, bits_iff]
    constructor
    · intro h
      refine ⟨fun p hp => ?_, fun p hp => ?_⟩
      · have hk : ks[p]? = some (ks[p]'(by omega)) := List.getElem?_eq_getElem (by omega)
        obtain ⟨c, hc⟩ := List.getElem?_of_mem ((h _).mp (List.getElem_mem (by omega : p < ks.length)))
        have hc2 := (List.getElem?_eq_some_iff.mp hc).1
        exact ⟨c, by omega, (key p c _ _ hk hc).mp rfl⟩
      · have hj : js[p]? = some (js[p]'(by omega)) := List.getElem?_eq_getElem (by omega)
        obtain ⟨c, hc⟩ := List.getElem?_of_mem ((h _).mpr (List.getElem_mem (by omega : p < js.length)))
        have hc2 := (List.getElem?_eq_some_iff.mp hc).1
        exact ⟨c, by omega, (key c p _ _ hc hj).mp rfl⟩
    · rintro ⟨h1, h2⟩ z
      constructor
      · intro hz
        obtain ⟨p, hp⟩ := List.getElem?_of_mem hz
        have hp2 := (List.getElem?_eq_some_iff.mp hp).1
        obtain ⟨q, hq, hw⟩ := h1 p (by omega)
        have hj : js[q]? = some (js[q]'(by omega)) := List.getElem?_eq_getElem (by omega)
        rw [(key p q _ _ hp hj).mpr hw]
        exact List.getElem_mem _
      · intro hz
        obtain ⟨q, hq⟩ := List.getElem?_of_mem hz
        have hq2 := (List.getElem?_eq_some_iff.mp hq).1
        obtain ⟨p, hp, hw⟩ := h2 q (by omega)
        have hk : ks[p]? = some (ks[p]'(by omega)) := List.getElem?_eq_getElem (by omega)
        rw [← (key p q _ _ hk hq).mpr hw]
        exact List.getElem_mem _
abbrev sLKind : Stmt := top 39
theorem scLKind : FnScope ["word", "places", "rounds", "known", "key", "bits", "at"] ["word", "places", "rounds", "known"] (defScope sLKind) := ⟨rfl, rfl, rfl, by decide +kernel, rfl, by decide +kernel, by decide +kernel⟩
def spLKind (P : Program) (w : World) (K : PySem.W.Frag) (r : Nat) : Sp := fun vs H Q _ => ∃ (u ps : List Nat) (a d : Addr) (D : List (List Itm)), vs = [.str (S u), .ref a, .int (r : Int), .ref d] ∧ SqT K H a (ps.map natV) ∧ (∀ p ∈ ps, p ≤ u.length) ∧ u.length ≤ 60 ∧ ps.length + r ≤ 10 ∧
  NumD P w H d D ∧ D.length + cost r u.length ≤ 1000000 ∧
  ∀ (n : Nat) D' H', But d H H' → NumD P w H' d D' → (∃ t, D' = D ++ t) → D'.length ≤ D.length + cost r u.length → NumB D' r u ps n → Q (.int (n : Int)) H'
theorem or_bits (b k : Nat) : Builtin.bitOr (b : Int) ((2 : Int) ^ k) = ((b ||| 2 ^ k : Nat) : Int) := by
  have e : ((2 : Int) ^ k) = ((2 ^ k : Nat) : Int) := by rw [Int.natCast_pow]; rfl
  rw [e, bitOr_nn (Int.natCast_nonneg _) (Int.natCast_nonneg _), Int.toNat_natCast, Int.toNat_natCast]
section
variable {P : Program} {w : World} {K : PySem.W.Frag} {mg : Str → Option Value} {base : Heap}
theorem ok_lkind0 {f : Addr} {fd : FuncData} (F : Fun K "_law_kind" "_law_kind" sLKind f fd) (tl : mg "len" = none) (cplain_kind : Cal P w K mg base "_law_plain" 1 ["word", "places"] (spPlain K)) :
    FnOk P w K mg base CX0 3 f fd ["word", "places", "rounds", "known"] (spLKind P w K 0) := by
  refine F.ok scLKind (fun vs H Q E h => ?_) (fun cdv A outer s H vs Q E hr h => ?_)
  · obtain ⟨u, ps, a, d, D, rfl, _⟩ := h
    rfl
  obtain ⟨u, ps, a, d, D, rfl, st, hle, hu, hps, hN, hD, q⟩ := h
  have hu16 := hr.units
  refine ⟨_, (pss_cons (ps_if (pt_cmpR op_eq (pv 2) pe_int (nomark _))
      (pss_one (ps_set (i := 4) scLKind.nd rfl (Or.inl rfl) (pcall cplain_kind hr (pa_cons (pv 0) (pa_cons (pv 1) pa_nil)))))
      pss_never)
    (pss_cons (ps_if (pt_cmp (NK.pc_nnotin (Nat.lt_of_le_of_lt (Nat.add_le_add_left (by decide : 16 ≤ 64) _) hu16) (pv 4) (pv 3)) rfl)
      (pss_one (NK.ps_nput (Nat.lt_of_le_of_lt (Nat.add_le_add_left (by decide : 16 ≤ 64) _) hu16) (pv 3) (pv 4) (pB1 NK.call_lenN tl (pv 3)) rfl))
      pss_nil)
    (pss_one (ps_ret (NK.pe_nget (Nat.lt_of_le_of_lt (Nat.add_le_add_left (by decide : 16 ≤ 64) _) hu16) (pv 3) (pv 4) (fun _ _ => rfl)))))), ?_⟩
  refine ⟨_, rfl, rfl, _, rfl, ?_⟩
  refine ite2 (fun e => ?_) (fun e => absurd rfl e)
  refine ⟨_, rfl, _, rfl, u, ps, a, rfl, st, hle, by omega, by omega, fun b H1 s1 hb => ?_⟩
  refine num_tail (hK := rfl) (hk := rfl) (hN.mono s1) hb hD fun n D' H2 b2 hN2 pre len hn => ?_
  exact q n D' H2 ((But.of s1).trans b2) hN2 pre len hn
theorem ok_lkindS {r : Nat} (hr10 : r ≤ 10) {f : Addr} {fd : FuncData} (F : Fun K "_law_kind" "_law_kind" sLKind f fd) (tl : mg "len" = none) (tr : mg "range" = none) (ckind_number : Cal P w K mg base "_law_kind" (3 + r) ["word", "places", "rounds", "known"] (spLKind P w K r)) :
    FnOk P w K mg base CX0 (3 + r + 1) f fd ["word", "places", "rounds", "known"] (spLKind P w K (r + 1)) := by
  refine F.ok scLKind (fun vs H Q E h => ?_) (fun cdv A outer s H vs Q E hr h => ?_)
  · obtain ⟨u, ps, a, d, D, rfl, _⟩ := h
    rfl
  obtain ⟨u, ps, a, d, D, rfl, st, hle, hu, hps, hN, hD, q⟩ := h
  have hu16 := hr.units
  refine ⟨_, (pss_cons (ps_if (pt_cmpR op_eq (pv 2) pe_int (nomark _))
      pss_never
      (pss_cons (ps_set (i := 5) scLKind.nd rfl (Or.inl rfl) pe_int)
      (pss_cons (ps_for PassesOwn.never rfl (pi_range1 (by rfl) tr (pa_cons (pe_op op_add (pB1 call_len_str tl (pv 0)) pe_int) pa_nil)) (pg_name (i := 6) scLKind.nd rfl (Or.inl rfl))
        (pss_one (ps_set (i := 5) scLKind.nd rfl (Or.inl rfl) (pe_op op_or (pv 5) (pe_op op_oneShl pe_int (pcall ckind_number hr (pa_cons (pv 0) (pa_cons (pe_op (r := rCatA K) op_catA (pv 1) (pe_tup (pa_cons (pv 6) pa_nil))) (pa_cons (pe_op op_sub (pv 2) pe_int) (pa_cons (pv 3) pa_nil)))) (hk := Nat.le_refl _)))))))
      (pss_one (ps_set (i := 4) scLKind.nd rfl (Or.inl rfl) (pe_tup (pa_cons (pv 2) (pa_cons (pv 5) pa_nil))))))))
    (pss_cons (ps_if (pt_cmp (NK.pc_nnotin (Nat.lt_of_le_of_lt (Nat.add_le_add_left (by decide : 16 ≤ 64) _) hu16) (pv 4) (pv 3)) rfl)
      (pss_one (NK.ps_nput (Nat.lt_of_le_of_lt (Nat.add_le_add_left (by decide : 16 ≤ 64) _) hu16) (pv 3) (pv 4) (pB1 NK.call_lenN tl (pv 3)) rfl))
      pss_nil)
    (pss_one (ps_ret (NK.pe_nget (Nat.lt_of_le_of_lt (Nat.add_le_add_left (by decide : 16 ≤ 64) _) hu16) (pv 3) (pv 4) (fun _ _ => rfl)))))), ?_⟩
  refine ⟨_, rfl, rfl, _, rfl, ?_⟩
  refine ite2 (fun e => absurd (int_eq e) (by omega)) (fun _ => ?_)
  refine ⟨_, rfl, _, rfl, by rw [S_len]; exact sz (by omega), _, _, rfl, rfl, _, rfl, by rw [S_len]; omega, by rw [S_len]; omega, ?_⟩
  have en : (((S u).length : Int) + 1).toNat = u.length + 1 := by rw [S_len]; omega
  rw [en]
  have hc : cost (r + 1) u.length = 1 + (u.length + 1) * cost r u.length := rfl
  have er : ((r + 1 : Nat) : Int) - 1 = (r : Int) := by omega
  refine for_range (lo := 0) (n := u.length + 1) (fun i σ H' => ∃ (ks : List Nat) (Di : List (List Itm)) (k6 : Option V), σ = [some (.str (S u)), some (.ref a), some (.int ((r + 1 : Nat) : Int)), some (.ref d), none, some (.int (bitsOf ks : Int)), k6] ∧ ks.length = i ∧ But d H H' ∧ NumD P w H' d Di ∧ (∃ t, Di = D ++ t) ∧ Di.length ≤ D.length + i * cost r u.length ∧ ∀ a k, ks[a]? = some k → NumB Di r u (ps ++ [a]) k)
    ⟨[], D, none, rfl, rfl, But.refl _ _, hN, ⟨[], by simp⟩, by omega, fun a k e => by cases e⟩ ?_ ?_
  · rintro i σ H1 hi ⟨ks, Di, k6, rfl, hk, b1, hN1, pre, hDi, hnum⟩
    refine ⟨_, rfl, _, rfl, _, rfl, _, rfl, by show 1 ≤ sizeLine; decide, fun t ht => ?_⟩
    have s2 := same_new ht (.tup [.int (0 + (i : Int))])
    refine catA1 (seqT s2 (b1.seqT hN.ext st)) upd_same (by rw [List.length_map]; omega) fun b H3 s3 hb => ?_
    have hi0 : V.int (0 + (i : Int)) = natV i := by unfold natV; rw [Int.zero_add]
    have hcc : (i + 1) * cost r u.length ≤ (u.length + 1) * cost r u.length := Nat.mul_le_mul_right _ (by omega)
    rw [Nat.succ_mul] at hcc
    refine ⟨_, rfl, _, _, rfl, rfl, _, rfl, u, ps ++ [i], b, d, Di, congrArg (fun z => [V.str (S u), V.ref b, V.int z, V.ref d]) er, by rw [List.map_append, List.map_singleton, ← hi0]; exact hb, fun p hp => ?_, hu, by rw [List.length_append, List.length_singleton]; omega, (hN1.mono s2).mono s3, by omega, fun n D' H4 b4 hN4 pre4 len4 hn4 => ?_⟩
    · rcases List.mem_append.mp hp with e | e
      · exact hle p e
      · rw [List.mem_singleton.mp e]
        omega
    have b5 : But d H H4 := b1.trans ((But.of (s2.trans s3)).trans b4)
    have hnl := hn4.lt
    refine ⟨n, rfl, rfl, by omega, _, _, rfl, rfl, ks ++ [n], D', some (.int (0 + (i : Int))), ?_, by rw [List.length_append, List.length_singleton, hk], b5, hN4, ?_, by rw [Nat.succ_mul]; omega, fun a k hak => ?_⟩
    · rw [bits_snoc, ← or_bits]
      rfl
    · obtain ⟨t1, e1⟩ := pre
      obtain ⟨t2, e2⟩ := pre4
      exact ⟨t1 ++ t2, by rw [e2, e1, List.append_assoc]⟩
    · by_cases ha : a < ks.length
      · rw [List.getElem?_append_left ha] at hak
        exact (hnum a k hak).mono pre4
      · have ha2 := (List.getElem?_eq_some_iff.mp hak).1
        rw [List.length_append, List.length_singleton] at ha2
        have ea : a = ks.length := by omega
        subst ea
        rw [List.getElem?_append_right (Nat.le_refl _)] at hak
        have e : n = k := by simpa using hak
        rw [← e, hk]
        exact hn4
  · rintro σ H1 ⟨ks, Di, k6, rfl, hk, b1, hN1, pre, hDi, hnum⟩
    refine ⟨_, rfl, _, rfl, by show 2 ≤ sizeLine; decide, fun kt hkt => ?_⟩
    have s4 := same_new hkt (.tup [.int ((r + 1 : Nat) : Int), .int (bitsOf ks : Int)])
    have hKA : KeyAt (upd H1 kt (.tup [.int ((r + 1 : Nat) : Int), .int (bitsOf ks : Int)])) (bitK (r + 1) (bitsOf ks)) kt := ⟨_, upd_same, .cons rfl (.cons rfl .nil)⟩
    refine num_tail (hK := rfl) (hk := rfl) (hN1.mono s4) hKA (by omega) fun n D' H2 b2 hN2 pre2 len2 hn2 => ?_
    refine q n D' H2 (b1.trans ((But.of s4).trans b2)) hN2 ?_ (by omega) ⟨ks, hk, fun a k hak => (hnum a k hak).mono pre2, hn2⟩
    obtain ⟨t1, e1⟩ := pre
    obtain ⟨t2, e2⟩ := pre2
    exact ⟨t1 ++ t2, by rw [e2, e1, List.append_assoc]⟩
theorem ok_lkind {f : Addr} {fd : FuncData} (F : Fun K "_law_kind" "_law_kind" sLKind f fd) (bF : Binds K fd ["word", "places", "rounds", "known"] []) (mF : mg "_law_kind" = some (.ref f)) (tl : mg "len" = none) (tr : mg "range" = none)
    (cplain_kind : Cal P w K mg base "_law_plain" 1 ["word", "places"] (spPlain K)) : ∀ r : Nat, r ≤ 10 → Cal P w K mg base "_law_kind" (3 + r) ["word", "places", "rounds", "known"] (spLKind P w K r)
  | 0, _ => ⟨f, fd, ok_lkind0 F tl cplain_kind, mF, F.kp, bF⟩
  | r + 1, h => ⟨f, fd, ok_lkindS (by omega) F tl tr (ok_lkind F bF mF tl tr cplain_kind r (by omega)), mF, F.kp, bF⟩
end
end W8

set_option Elab.async false
set_option linter.all false
set_option maxRecDepth 100000
set_option maxHeartbeats 4000000
namespace W8
open PySem L2 NK GM
def PairsAt (H : Hp) (a : Addr) (prs : Prs) : Prop := ∃ ts : List Addr, H a = some (.lst (ts.map V.ref)) ∧ Paired (fun (t : Addr) (pr : Nat × Nat) => H t = some (.tup [natV pr.1, natV pr.2])) ts prs
theorem PairsAt.mono {H H' : Hp} {a : Addr} {prs : Prs} (s : Same H H') (h : PairsAt H a prs) : PairsAt H' a prs := by
  obtain ⟨ts, h1, h2⟩ := h
  exact ⟨ts, s _ _ h1, Paired.mapP h2 fun _ _ z => s _ _ z⟩
abbrev sChosen : Stmt := top 40
theorem scChosen : FnScope ["pairs", "side", "pair"] ["pairs", "side"] (defScope sChosen) := ⟨rfl, rfl, rfl, by decide +kernel, rfl, by decide +kernel, by decide +kernel⟩
def spChosen (K : PySem.W.Frag) : Sp := fun vs H Q _ => ∃ (a : Addr) (s : Nat) (z : Int) (prs : Prs), vs = [.ref a, .int z] ∧ z = (s : Int) ∧ PairsAt H a prs ∧ s ≤ 1 ∧ prs.length ≤ 10 ∧ ∀ t H', Same H H' → SqT K H' t ((prs.map (sel s)).map natV) → Q (.ref t) H'
abbrev sLWins : Stmt := top 41
theorem scLWins : FnScope ["words", "pairs", "left", "known", "one"] ["words", "pairs", "left"] (defScope sLWins) := ⟨rfl, rfl, rfl, by decide +kernel, rfl, by decide +kernel, by decide +kernel⟩
/-- the words and the pairs, as the law keeps them -/
structure LawAt (K : PySem.W.Frag) (H : Hp) (W a : Addr) (u v : List Nat) (prs : Prs) : Prop where
  w : SqT K H W [.str (S u), .str (S v)]
  p : PairsAt H a prs
  i : Inb u.length v.length prs
  u60 : u.length ≤ 60
  v60 : v.length ≤ 60
theorem LawAt.mono {K : PySem.W.Frag} {H H' : Hp} {W a : Addr} {u v : List Nat} {prs : Prs} (s : Same H H') (h : LawAt K H W a u v prs) : LawAt K H' W a u v prs := ⟨seqT s h.w, h.p.mono s, h.i, h.u60, h.v60⟩
def spLWins (K : PySem.W.Frag) : Sp := fun vs H Q _ => ∃ (W a : Addr) (u v : List Nat) (prs : Prs) (l : Nat), vs = [.ref W, .ref a, .int (l : Int)] ∧ LawAt K H W a u v prs ∧ l ≤ 3 ∧ prs.length + l ≤ 10 ∧ ∀ (b : Bool) H', Same H H' → (b = true ↔ Win l u v prs) → Q (.bl b) H'
abbrev sLReply : Stmt := top 42
theorem scLReply : FnScope ["words", "pairs", "left", "side", "place", "known", "wanted", "answer"] ["words", "pairs", "left", "side", "place"] (defScope sLReply) := ⟨rfl, rfl, rfl, by decide +kernel, rfl, by decide +kernel, by decide +kernel⟩
def spLReply (K : PySem.W.Frag) : Sp := fun vs H Q _ => ∃ (W a : Addr) (u v : List Nat) (prs : Prs) (n s x : Nat), vs = [.ref W, .ref a, .int ((n + 1 : Nat) : Int), .int (s : Int), .int (x : Int)] ∧ LawAt K H W a u v prs ∧ n ≤ 2 ∧ prs.length + n + 1 ≤ 10 ∧ s ≤ 1 ∧ x ≤ (wd u v s).length ∧
  ∀ o H', Same H H' → ReplyIs n u v prs s x o → Q (optN o) H'
theorem numB_pair {D : List (List Itm)} (nd : D.Nodup) {n : Nat} {u v : List Nat} {prs : Prs} {s x y j k : Nat} (hin : Inb u.length v.length prs) (hs : s ≤ 1) (n1 : NumB D n (wd u v s) (prs.map (sel s) ++ [x]) k) (n2 : NumB D n (wd u v (1 - s)) (prs.map (sel (1 - s)) ++ [y]) j) (lx : x ≤ (wd u v s).length) (ly : y ≤ (wd u v (1 - s)).length) :
    j = k ↔ Wins n u v prs s x y := by
  have hin2 : ∀ z : Nat × Nat, z.1 ≤ u.length → z.2 ≤ v.length → Inb u.length v.length (prs ++ [z]) := fun z h1 h2 q hq => by
    rcases List.mem_append.mp hq with e | e
    · exact hin q e
    · rw [List.mem_singleton.mp e]; exact ⟨h1, h2⟩
  rcases s with _ | _ | s
  · have q := numB_iff nd (r := n) (u := u) (v := v) (Z := prs ++ [(x, y)]) (n := k) (m := j) (hin2 (x, y) lx ly) (by rw [List.map_append]; exact n1) (by rw [List.map_append]; exact n2)
    exact eq_comm.trans q
  · have q := numB_iff nd (r := n) (u := u) (v := v) (Z := prs ++ [(y, x)]) (n := j) (m := k) (hin2 (y, x) ly lx) (by rw [List.map_append]; exact n2) (by rw [List.map_append]; exact n1)
    exact q
  · omega
section
variable {P : Program} {w : World} {K : PySem.W.Frag} {mg : Str → Option Value} {base : Heap}
theorem ok_chosen {f : Addr} {fd : FuncData} (F : Fun K "_law_chosen" "_law_chosen" sChosen f fd) (tt : mg "tuple" = none) : FnOk P w K mg base CX0 1 f fd ["pairs", "side"] (spChosen K) := by
  refine F.ok scChosen (fun vs H Q E h => ?_) (fun cdv A outer s H vs Q E hr h => ?_)
  · obtain ⟨a, s, z, prs, rfl, _⟩ := h
    rfl
  obtain ⟨a, s, z, prs, rfl, rfl, hP, hs, hn, q⟩ := h
  refine ⟨_, (pss_one (ps_ret (pT1 (r := rTupOf K) cr_tupOf tt (pe_lc (own := [("pair", 2)]) (g := gName 2) (tt := tYes) rfl scChosen.nd (pi_list (pv 0)) (blkOk_by (own := [("pair", 2)]) (N := ["pairs", "side", "pair"]) (sc := defScope sChosen) (by decide +kernel)) (fun _ _ _ _ _ => (pg_name (i := 2) scChosen.nd rfl (Or.inl rfl))) (fun _ _ _ _ _ => pts_nil) (fun _ _ _ _ _ => (pe_ix (r := rIxT K) ix_tup (pv 2) (pv 1) (fun _ _ => rfl))))))), ?_⟩
  obtain ⟨ts, hts, hq⟩ := hP
  have hql : ts.length = prs.length := Paired.length hq
  refine ⟨_, rfl, a, rfl, ⟨_, SqL.of hts⟩, fun D hD => ?_⟩
  refine walk_l (xs := ts.map V.ref) (fun j H' => Same H H' ∧ H' D = some (.lst (((prs.take j).map (sel s)).map natV))) ⟨same_new hD _, upd_same⟩ (fun j H' ⟨s4, _⟩ => SqL.of (s4 _ _ hts)) ?_ ?_
  · rintro j y H4 hy ⟨s4, hD4⟩
    obtain ⟨qa, hqa, rfl, _⟩ := get_map hy
    obtain ⟨pr, hprj, hq1⟩ := paired_get hq hqa
    refine ⟨rfl, yes ?_⟩
    refine ⟨_, rfl, _, rfl, qa, _, _, _, rfl, rfl, SqT.of (s4 _ _ hq1), sel_at hs pr, ?_⟩
    refine ⟨_, hD4, small_lt ?_, same_upd s4 hD, ?_⟩
    · rw [List.length_map, List.length_map, List.length_take]
      omega
    · rw [upd_same, take_map _ hprj, List.map_append]
      rfl
  rintro H4 ⟨s4, hD4⟩
  rw [List.length_map, hql, List.take_length] at hD4
  refine ⟨D, _, rfl, .inl ⟨SqL.of hD4, fun ct hct => ?_⟩⟩
  exact q ct _ (s4.trans (same_new hct _)) (SqT.of upd_same)
theorem ok_lwins {f : Addr} {fd : FuncData} (F : Fun K "_law_wins" "_law_wins" sLWins f fd) (cc : Cal P w K mg base "_law_chosen" 1 ["pairs", "side"] (spChosen K)) (ckind : ∀ r : Nat, r ≤ 10 → Cal P w K mg base "_law_kind" (3 + r) ["word", "places", "rounds", "known"] (spLKind P w K r)) :
    FnOk P w K mg base CX0 7 f fd ["words", "pairs", "left"] (spLWins K) := by
  refine F.ok scLWins (fun vs H Q E h => ?_) (fun cdv A outer s H vs Q E hr h => ?_)
  · obtain ⟨W, a, u, v, prs, l, rfl, _⟩ := h
    rfl
  obtain ⟨W, a, u, v, prs, l, rfl, L, hl, hpl, q⟩ := h
  have c1 := ckind l (by omega)
  have hk : 3 + l ≤ 6 := by omega
  refine ⟨_, (pss_cons (ps_set (i := 3) scLWins.nd rfl (Or.inl rfl) NK.pe_nnew)
    (pss_cons (ps_set (i := 4) scLWins.nd rfl (Or.inl rfl) (pcall c1 hr (pa_cons (pixT (pv 0) pe_int) (pa_cons (pcall cc hr (pa_cons (pv 1) (pa_cons pe_int pa_nil))) (pa_cons (pv 2) (pa_cons (pv 3) pa_nil)))) hk))
    (pss_one (ps_ret (pe_cmpR op_eq (pv 4) (pcall c1 hr (pa_cons (pixT (pv 0) pe_int) (pa_cons (pcall cc hr (pa_cons (pv 1) (pa_cons pe_int pa_nil))) (pa_cons (pv 2) (pa_cons (pv 3) pa_nil)))) hk) (nomark _)))))), ?_⟩
  intro d hd
  have s1 := same_new hd (ND P w d [])
  have hd1 : (upd H d (ND P w d [])) d = some (ND P w d []) := upd_same
  have cu := cost_le (r := l) L.u60 (by omega)
  have cv := cost_le (r := l) L.v60 (by omega)
  refine ⟨_, rfl, W, _, _, _, rfl, rfl, seqT s1 L.w, rfl, _, rfl, a, 0, _, prs, rfl, rfl, L.p.mono s1, by omega, by omega, fun t0 H3 s3 ht0 => ?_⟩
  have hd3 := s3 _ _ hd1
  refine ⟨_, rfl, _, rfl, u, prs.map (sel 0), t0, d, [], rfl, ht0, fun y hy => ?_, L.u60, by rw [List.length_map]; omega, ⟨[], hd3, (fun _ h => nomatch h), rfl, (fun _ _ e => by cases e), List.nodup_nil⟩, by show 0 + _ ≤ _; omega, fun n D1 H5 b5 hN5 pre5 len5 hn5 => ?_⟩
  · obtain ⟨z, hz, rfl⟩ := List.mem_map.mp hy
    exact (L.i z hz).1
  have S5 : Same H H5 := fun b o e => b5 b o (ne_of_none e hd) (s3 _ _ (s1 _ _ e))
  have len5' : D1.length ≤ cost l u.length := by
    have : ([] : List (List Itm)).length = 0 := rfl
    omega
  refine ⟨_, rfl, _, rfl, W, _, _, _, rfl, rfl, seqT S5 L.w, rfl, _, rfl, a, 1, _, prs, rfl, rfl, L.p.mono S5, by omega, by omega, fun t1 H6 s6 ht1 => ?_⟩
  refine ⟨_, rfl, _, rfl, v, prs.map (sel 1), t1, d, D1, rfl, ht1, fun y hy => ?_, L.v60, by rw [List.length_map]; omega, hN5.mono s6, by omega, fun m D2 H7 b7 hN7 pre7 len7 hn7 => ?_⟩
  · obtain ⟨z, hz, rfl⟩ := List.mem_map.mp hy
    exact (L.i z hz).2
  refine ⟨rfl, q _ H7 (fun b o e => b7 b o (ne_of_none e hd) (s6 _ _ (S5 b o e))) ?_⟩
  obtain ⟨kvs, _, _, hk3, _, nd⟩ := hN7
  rw [← numB_iff nd L.i (hn5.mono pre7) hn7, decide_eq_true_eq]
  constructor
  · intro e
    have : (n : Int) = (m : Int) := by injection e
    omega
  · intro e
    rw [e]
end
end W8

set_option Elab.async false
set_option linter.all false
set_option maxRecDepth 100000
set_option maxHeartbeats 4000000
namespace W8
open PySem L2 NK GM
section
variable {P : Program} {w : World} {K : PySem.W.Frag} {mg : Str → Option Value} {base : Heap}
theorem ok_lreply {f : Addr} {fd : FuncData} (F : Fun K "_law_reply" "_law_reply" sLReply f fd) (tl : mg "len" = none) (tr : mg "range" = none) (cc : Cal P w K mg base "_law_chosen" 1 ["pairs", "side"] (spChosen K)) (ckind : ∀ r : Nat, r ≤ 10 → Cal P w K mg base "_law_kind" (3 + r) ["word", "places", "rounds", "known"] (spLKind P w K r)) :
    FnOk P w K mg base CX0 6 f fd ["words", "pairs", "left", "side", "place"] (spLReply K) := by
  refine F.ok scLReply (fun vs H Q E h => ?_) (fun cdv A outer s H vs Q E hr h => ?_)
  · obtain ⟨W, a, u, v, prs, n, s, x, rfl, _⟩ := h
    rfl
  obtain ⟨W, a, u, v, prs, n, sd, x, rfl, L, hn, hpl, hs, hx, q⟩ := h
  have c1 := ckind n (by omega)
  have hk : 3 + n ≤ 5 := by omega
  refine ⟨_, (pss_cons (ps_set (i := 5) scLReply.nd rfl (Or.inl rfl) NK.pe_nnew)
    (pss_cons (ps_set (i := 6) scLReply.nd rfl (Or.inl rfl) (pcall c1 hr (pa_cons (pixT (pv 0) (pv 3)) (pa_cons (pe_op (r := rCatA K) op_catA (pcall cc hr (pa_cons (pv 1) (pa_cons (pv 3) pa_nil))) (pe_tup (pa_cons (pv 4) pa_nil))) (pa_cons (pe_op op_sub (pv 2) pe_int) (pa_cons (pv 5) pa_nil)))) hk))
    (pss_cons (ps_for PassesOwn.never rfl (pi_range1 (by rfl) tr (pa_cons (pe_op op_add (pB1 call_len_str tl (pixT (pv 0) (pe_op op_sub pe_int (pv 3)))) pe_int) pa_nil)) (pg_name (i := 7) scLReply.nd rfl (Or.inl rfl))
      (pss_one (ps_if (pt_cmpR op_eq (pcall c1 hr (pa_cons (pixT (pv 0) (pe_op op_sub pe_int (pv 3))) (pa_cons (pe_op (r := rCatA K) op_catA (pcall cc hr (pa_cons (pv 1) (pa_cons (pe_op op_sub pe_int (pv 3)) pa_nil))) (pe_tup (pa_cons (pv 7) pa_nil))) (pa_cons (pe_op op_sub (pv 2) pe_int) (pa_cons (pv 5) pa_nil)))) hk) (pv 6) (nomark _))
        (pss_one (ps_ret (pv 7)))
        pss_nil)))
    (pss_one (ps_ret pe_non))))), ?_⟩
  intro d hd
  have s1 := same_new hd (ND P w d [])
  have hd1 : (upd H d (ND P w d [])) d = some (ND P w d []) := upd_same
  have zs := wd_len (s := sd) L.u60 L.v60
  have zo := wd_len (s := 1 - sd) L.u60 L.v60
  have cu := kcost zs (n := n) hn
  have cv := kcost zo (n := n) hn
  have cu1 := cost_le (r := n) zs (by omega)
  have er : ((n + 1 : Nat) : Int) - 1 = (n : Int) := by omega
  have eo : (1 : Int) - (sd : Int) = ((1 - sd : Nat) : Int) := by omega
  have hsel : ∀ (s' : Nat) (y z : Nat), s' ≤ 1 → z ≤ (wd u v s').length → y ∈ prs.map (sel s') ++ [z] → y ≤ (wd u v s').length := fun s' y z _ hz hy => by
    rcases List.mem_append.mp hy with e | e
    · exact sel_le L.i e
    · rw [List.mem_singleton.mp e]; exact hz
  -- wanted
  refine ⟨_, rfl, _, rfl, W, _, _, _, rfl, rfl, seqT s1 L.w, wd_at u v hs, _, rfl, _, rfl, a, sd, _, prs, rfl, rfl, L.p.mono s1, hs, by omega, fun t0 H3 s3 ht0 => ?_⟩
  refine ⟨_, rfl, by show 1 ≤ sizeLine; decide, fun tp htp => ?_⟩
  have s4 := same_new htp (.tup [natV x])
  refine catA1 (seqT s4 ht0) upd_same (by rw [List.length_map, List.length_map]; omega) fun b H5 s5 hb => ?_
  have s35 := s3.trans (s4.trans s5)
  have hd5 := s35 _ _ hd1
  refine ⟨_, rfl, _, _, rfl, rfl, _, rfl, wd u v sd, prs.map (sel sd) ++ [x], b, d, [], congrArg (fun z => [V.str (S (wd u v sd)), V.ref b, V.int z, V.ref d]) er, by rw [List.map_append]; exact hb, fun y hy => hsel sd y x hs hx hy, zs, by rw [List.length_append, List.length_map, List.length_singleton]; omega, ⟨[], hd5, (fun _ h => nomatch h), rfl, (fun _ _ e => by cases e), List.nodup_nil⟩, by show 0 + _ ≤ _; omega, fun k D1 H6 b6 hN6 pre6 len6 hn6 => ?_⟩
  have S6 : Same H H6 := fun b o e => b6 b o (ne_of_none e hd) (s35 _ _ (s1 _ _ e))
  have len6' : D1.length ≤ cost n (wd u v sd).length := by
    have : ([] : List (List Itm)).length = 0 := rfl
    omega
  -- the others
  refine ⟨_, rfl, _, rfl, _, _, rfl, rfl, W, _, _, _, rfl, rfl, seqT S6 L.w, wd_at1 u v hs, ?_⟩
  refine ⟨_, rfl, by rw [S_len]; exact sz (by omega), _, _, rfl, rfl, _, rfl, by rw [S_len]; omega, by rw [S_len]; omega, ?_⟩
  have en : (((S (wd u v (1 - sd))).length : Int) + 1).toNat = (wd u v (1 - sd)).length + 1 := by rw [S_len]; omega
  rw [en]
  refine for_range (lo := 0) (n := (wd u v (1 - sd)).length + 1) (fun i σ H' => ∃ (Di : List (List Itm)) (y7 : Option V), σ = [some (.ref W), some (.ref a), some (.int ((n + 1 : Nat) : Int)), some (.int (sd : Int)), some (.int (x : Int)), some (.ref d), some (.int (k : Int)), y7] ∧ Same H H' ∧ NumD P w H' d Di ∧ (∃ t, Di = D1 ++ t) ∧ Di.length ≤ D1.length + i * cost n (wd u v (1 - sd)).length ∧ ∀ z, z < i → ¬ Wins n u v prs sd x z)
    ⟨D1, none, rfl, S6, hN6, ⟨[], by simp⟩, by omega, fun z hz => by omega⟩ ?_ ?_
  · rintro i σ H7 hi ⟨Di, y7, rfl, S7, hN7, pre, hDi, hno⟩
    have hcc : (i + 1) * cost n (wd u v (1 - sd)).length ≤ ((wd u v (1 - sd)).length + 1) * cost n (wd u v (1 - sd)).length := Nat.mul_le_mul_right _ (by omega)
    rw [Nat.succ_mul] at hcc
    refine ⟨_, rfl, _, rfl, _, _, rfl, rfl, W, _, _, _, rfl, rfl, seqT S7 L.w, wd_at1 u v hs, _, rfl, _, rfl, _, _, rfl, rfl, a, 1 - sd, _, prs, rfl, eo, L.p.mono S7, by omega, by omega, fun t1 H8 s8 ht1 => ?_⟩
    refine ⟨_, rfl, by show 1 ≤ sizeLine; decide, fun tq htq => ?_⟩
    have s9 := same_new htq (.tup [.int (0 + (i : Int))])
    have hi0 : V.int (0 + (i : Int)) = natV i := by unfold natV; rw [Int.zero_add]
    refine catA1 (seqT s9 ht1) upd_same (by rw [List.length_map, List.length_map]; omega) fun b2 H10 s10 hb2 => ?_
    have hN10 := ((hN7.mono s8).mono s9).mono s10
    refine ⟨_, rfl, _, _, rfl, rfl, _, rfl, wd u v (1 - sd), prs.map (sel (1 - sd)) ++ [i], b2, d, Di, congrArg (fun z => [V.str (S (wd u v (1 - sd))), V.ref b2, V.int z, V.ref d]) er, by rw [List.map_append, List.map_singleton, ← hi0]; exact hb2, fun y hy => hsel (1 - sd) y i (by omega) (by omega) hy, zo, by rw [List.length_append, List.length_map, List.length_singleton]; omega, hN10, by omega, fun j D2 H11 b11 hN11 pre11 len11 hn11 => ?_⟩
    have S11 : Same H H11 := fun b o e => b11 b o (ne_of_none e hd) (s10 _ _ (s9 _ _ (s8 _ _ (S7 b o e))))
    have pre2 : ∃ t, D2 = D1 ++ t := by
      obtain ⟨t1, e1⟩ := pre
      obtain ⟨t2, e2⟩ := pre11
      exact ⟨t1 ++ t2, by rw [e2, e1, List.append_assoc]⟩
    have nd : D2.Nodup := by
      obtain ⟨kvs, _, _, _, _, nd⟩ := hN11
      exact nd
    have key : j = k ↔ Wins n u v prs sd x i := numB_pair nd L.i hs (hn6.mono pre2) hn11 hx (by omega)
    refine ⟨_, rfl, rfl, _, rfl, ?_⟩
    refine ite2 (fun e => ?_) (fun e => ?_)
    · have e1 : j = k := by have := int_eq e; omega
      refine ⟨_, rfl, ?_⟩
      rw [hi0]
      exact q (some i) _ S11 ⟨by omega, key.mp e1, hno⟩
    · refine ⟨D2, some (.int (0 + (i : Int))), rfl, S11, hN11, pre2, by rw [Nat.succ_mul]; omega, fun z hz hw => ?_⟩
      by_cases e3 : z = i
      · subst e3
        exact e (decide_eq_true (by rw [key.mpr hw]))
      · exact hno z (by omega) hw
  · rintro σ H7 ⟨Di, y7, rfl, S7, hN7, pre, hDi, hno⟩
    exact q none H7 S7 fun y hy => hno y (by omega)
end
end W8

set_option Elab.async false
set_option linter.all false
set_option maxRecDepth 100000
set_option maxHeartbeats 4000000
namespace W8
open PySem L2 NK GM
abbrev sLAttack : Stmt := top 43
theorem scLAttack : FnScope ["words", "pairs", "left", "side", "place"] ["words", "pairs", "left"] (defScope sLAttack) := ⟨rfl, rfl, rfl, by decide +kernel, rfl, by decide +kernel, by decide +kernel⟩
def spLAttack (K : PySem.W.Frag) : Sp := fun vs H Q _ => ∃ (W a : Addr) (u v : List Nat) (prs : Prs) (l : Nat), vs = [.ref W, .ref a, .int (l : Int)] ∧ LawAt K H W a u v prs ∧ l ≤ 3 ∧ prs.length + l ≤ 10 ∧
  ∀ o y H', Same H H' → AttackIs (prs.length + l) u v prs o → AtkV H' o y → Q y H'
section
variable {P : Program} {w : World} {K : PySem.W.Frag} {mg : Str → Option Value} {base : Heap}
theorem ok_lattack {f : Addr} {fd : FuncData} (F : Fun K "_law_attack" "_law_attack" sLAttack f fd) (tl : mg "len" = none) (tr : mg "range" = none) (cr : Cal P w K mg base "_law_reply" 6 ["words", "pairs", "left", "side", "place"] (spLReply K)) :
    FnOk P w K mg base CX0 7 f fd ["words", "pairs", "left"] (spLAttack K) := by
  refine F.ok scLAttack (fun vs H Q E h => ?_) (fun cdv A outer s H vs Q E hr h => ?_)
  · obtain ⟨W, a, u, v, prs, l, rfl, _⟩ := h
    rfl
  obtain ⟨W, a, u, v, prs, l, rfl, L, hl, hpl, q⟩ := h
  refine ⟨_, (pss_cons (ps_if (pt_cmpR op_eq (pv 2) pe_int (nomark _))
      (pss_one (ps_ret pe_non))
      pss_nil)
    (pss_cons (ps_for PassesOwn.never rfl (pi_range1 (by rfl) tr (pa_cons pe_int pa_nil)) (pg_name (i := 3) scLAttack.nd rfl (Or.inl rfl))
      (pss_one (ps_for PassesOwn.never rfl (pi_range1 (by rfl) tr (pa_cons (pe_op op_add (pB1 call_len_str tl (pixT (pv 0) (pv 3))) pe_int) pa_nil)) (pg_name (i := 4) scLAttack.nd rfl (Or.inl rfl))
        (pss_one (ps_if (pt_cmpR op_isN (pcall cr hr (pa_cons (pv 0) (pa_cons (pv 1) (pa_cons (pv 2) (pa_cons (pv 3) (pa_cons (pv 4) pa_nil)))))) pe_non (nomark _))
          (pss_one (ps_ret (pe_tup (pa_cons (pv 3) (pa_cons (pv 4) pa_nil)))))
          pss_nil)))))
    (pss_one (ps_ret pe_non)))), ?_⟩
  refine ⟨_, rfl, rfl, _, rfl, ?_⟩
  refine ite2 (fun e => ?_) (fun e => ?_)
  · have e1 : l = 0 := by have := int_eq e; omega
    exact q none .non H (Same.refl H) (.inl (by omega)) rfl
  obtain ⟨n, rfl⟩ : ∃ n, l = n + 1 := ⟨l - 1, by
    have : l ≠ 0 := fun z => e (decide_eq_true (by rw [z]; rfl))
    omega⟩
  have en : prs.length + (n + 1) - prs.length - 1 = n := by omega
  refine ⟨_, rfl, by decide, by decide, ?_⟩
  refine for_range (lo := 0) (n := 2) (fun i σ H' => ∃ (y3 y4 : Option V), σ = [some (.ref W), some (.ref a), some (.int ((n + 1 : Nat) : Int)), y3, y4] ∧ Same H H' ∧ ∀ s' x', s' < i → x' ≤ (wd u v s').length → ∃ y, y ≤ (wd u v (1 - s')).length ∧ Wins n u v prs s' x' y)
    ⟨none, none, rfl, Same.refl H, fun _ _ h => by omega⟩ ?_ ?_
  · rintro i σ H1 hi ⟨y3, y4, rfl, s1, hall⟩
    have zs := wd_len (s := i) L.u60 L.v60
    have hi0 : V.int (0 + (i : Int)) = natV i := by unfold natV; rw [Int.zero_add]
    rw [hi0]
    refine ⟨_, rfl, _, rfl, W, _, _, _, rfl, rfl, seqT s1 L.w, wd_at u v (by omega), ?_⟩
    refine ⟨_, rfl, by rw [S_len]; exact sz (by omega), _, _, rfl, rfl, _, rfl, by rw [S_len]; omega, by rw [S_len]; omega, ?_⟩
    have en2 : (((S (wd u v i)).length : Int) + 1).toNat = (wd u v i).length + 1 := by rw [S_len]; omega
    rw [en2]
    refine for_range (lo := 0) (n := (wd u v i).length + 1) (fun j σ H' => ∃ (y4 : Option V), σ = [some (.ref W), some (.ref a), some (.int ((n + 1 : Nat) : Int)), some (natV i), y4] ∧ Same H H' ∧ ∀ x', x' < j → ∃ y, y ≤ (wd u v (1 - i)).length ∧ Wins n u v prs i x' y)
      ⟨_, rfl, s1, fun _ h => by omega⟩ ?_ ?_
    · rintro j σ H2 hj ⟨y4, rfl, s2, hin⟩
      have hj0 : V.int (0 + (j : Int)) = natV j := by unfold natV; rw [Int.zero_add]
      rw [hj0]
      refine ⟨_, rfl, _, rfl, _, rfl, _, rfl, _, rfl, W, a, u, v, prs, n, i, j, rfl, L.mono s2, by omega, by omega, by omega, by omega, fun o H3 s3 ho => ?_⟩
      have S3 := s2.trans s3
      refine ⟨rfl, _, rfl, ?_⟩
      cases o with
      | none =>
        refine ite2 (fun _ => ?_) (fun e => absurd rfl e)
        refine ⟨_, rfl, _, rfl, by show 2 ≤ sizeLine; decide, fun t ht => ?_⟩
        refine q (some (i, j)) _ _ (S3.trans (same_new ht _)) ⟨by omega, by omega, by omega, ?_, fun s' x' h1 h2 h3 => ?_⟩ ⟨t, rfl, upd_same⟩
        · rw [en]
          exact ho
        · rw [en]
          rcases h3 with h3 | ⟨h3, h4⟩
          · exact hall s' x' h3 h2
          · subst h3
            exact hin x' h4
      | some y =>
        refine ite2 (fun e => ?_) (fun e => ?_)
        · cases e
        refine ⟨_, rfl, S3, fun x' hx' => ?_⟩
        by_cases ex : x' = j
        · subst ex
          exact ⟨y, ho.1, ho.2.1⟩
        · exact hin x' (by omega)
    · rintro σ H2 ⟨y4, rfl, s2, hin⟩
      refine ⟨_, _, rfl, s2, fun s' x' hs' hx' => ?_⟩
      by_cases es : s' = i
      · subst es
        exact hin x' (by omega)
      · exact hall s' x' (by omega) hx'
  · rintro σ H1 ⟨y3, y4, rfl, s1, hall⟩
    refine q none .non H1 s1 (.inr fun s' x' h1 h2 => ?_) rfl
    rw [en]
    exact hall s' x' (by omega) h2
end
end W8

set_option Elab.async false
set_option linter.all false
set_option maxRecDepth 100000
set_option maxHeartbeats 4000000
namespace W8
open PySem L2 NK GM
abbrev sFault : Stmt := top 44
theorem scFault : FnScope ["words", "left", "rounds", "side", "place"] ["words", "left", "rounds", "side", "place"] (defScope sFault) := ⟨rfl, rfl, rfl, by decide +kernel, rfl, by decide +kernel, by decide +kernel⟩
def FaultT (Q : VK) (H : Hp) (u v : List Nat) (l r s x : Int) : Prop :=
  (l = 0 → Told Q H (eL ++ [.int r])) ∧ (l ≠ 0 → ¬ (s = 0 ∨ s = 1) → Told Q H (eS ++ [.int s])) ∧
    (l ≠ 0 → ∀ n : Nat, n ≤ 1 → s = (n : Int) → ¬ (0 ≤ x ∧ x ≤ ((wd u v n).length : Int)) → Told Q H (eS ++ [.int x])) ∧
    (l ≠ 0 → ∀ n m : Nat, n ≤ 1 → s = (n : Int) → x = (m : Int) → m ≤ (wd u v n).length → Told Q H [])
def spFault (K : PySem.W.Frag) : Sp := fun vs H Q _ => ∃ (W : Addr) (u v : List Nat) (l r s x : Int), vs = [.ref W, .int l, .int r, .int s, .int x] ∧ SqT K H W [.str (S u), .str (S v)] ∧ u.length ≤ 60 ∧ v.length ≤ 60 ∧ FaultT Q H u v l r s x
section
variable {P : Program} {w : World} {K : PySem.W.Frag} {mg : Str → Option Value} {base : Heap}
theorem told_lst {Q : VK} {H : Hp} {xs : List V} (h : Told Q H xs) (l : Addr) (hl : H l = none) : Q (.ref l) (upd H l (.lst xs)) := h l _ (same_new hl _) upd_same
theorem ok_fault {f : Addr} {fd : FuncData} (F : Fun K "_law_fault" "_law_fault" sFault f fd) (tl : mg "len" = none) : FnOk P w K mg base CX0 1 f fd ["words", "left", "rounds", "side", "place"] (spFault K) := by
  refine F.ok scFault (fun vs H Q E h => ?_) (fun cdv A outer s H vs Q E hr h => ?_)
  · obtain ⟨W, u, v, l, r, s, x, rfl, _⟩ := h
    rfl
  obtain ⟨W, u, v, l, r, sd, x, rfl, hW, hu, hv, e0, e1, e2, e3⟩ := h
  refine ⟨_, (pss_cons (ps_if (pt_cmpR op_eq (pv 1) pe_int (nomark _))
      (pss_one (ps_ret (pe_lst (pa_cons pe_str (pa_cons pe_str (pa_cons pe_str (pa_cons (pv 2) pa_nil)))))))
      pss_nil)
    (pss_cons (ps_if (PW.pt (pw_or (pt_cmpR op_lt (pv 3) pe_int (nomark _)) (pw_or1 (pt_cmpR op_gt (pv 3) pe_int (nomark _)))))
      (pss_one (ps_ret (pe_lst (pa_cons pe_str (pa_cons pe_str (pa_cons pe_str (pa_cons (pv 3) pa_nil)))))))
      pss_nil)
    (pss_cons (ps_if (PW.pt (pw_or (pt_cmpR op_lt (pv 4) pe_int (nomark _)) (pw_or1 (pt_cmpR op_gt (pv 4) (pB1 call_len_str tl (pixT (pv 0) (pv 3))) (nomark _)))))
      (pss_one (ps_ret (pe_lst (pa_cons pe_str (pa_cons pe_str (pa_cons pe_str (pa_cons (pv 4) pa_nil)))))))
      pss_nil)
    (pss_one (ps_ret (pe_lst pa_nil)))))), ?_⟩
  refine ⟨_, rfl, rfl, _, rfl, ?_⟩
  refine ite2 (fun e => ?_) (fun e => ?_)
  · exact ⟨_, rfl, by show 4 ≤ sizeLine; decide, told_lst (e0 (int_eq e))⟩
  have hl : l ≠ 0 := fun z => e (decide_eq_true (by rw [z]))
  refine ⟨_, rfl, _, _, rfl, rfl, _, rfl, ?_⟩
  refine ite2 (fun h => ⟨_, rfl, by show 4 ≤ sizeLine; decide, told_lst (e1 hl (by have := of_decide_eq_true h; omega))⟩) (fun h1 => ?_)
  refine ⟨_, rfl, _, _, rfl, rfl, _, rfl, ?_⟩
  refine ite2 (fun h => ⟨_, rfl, by show 4 ≤ sizeLine; decide, told_lst (e1 hl (by have := of_decide_eq_true h; omega))⟩) (fun h2 => ?_)
  have h1' : ¬ sd < 0 := fun z => h1 (decide_eq_true z)
  have h2' : ¬ 1 < sd := fun z => h2 (decide_eq_true z)
  obtain ⟨n, rfl⟩ : ∃ n : Nat, sd = (n : Int) := ⟨sd.toNat, by omega⟩
  have hn : n ≤ 1 := by omega
  have zs := wd_len (s := n) hu hv
  refine ⟨_, rfl, _, _, rfl, rfl, _, rfl, ?_⟩
  refine ite2 (fun h => ⟨_, rfl, by show 4 ≤ sizeLine; decide, told_lst (e2 hl n hn rfl (by have := of_decide_eq_true h; omega))⟩) (fun h3 => ?_)
  refine ⟨_, rfl, _, rfl, _, rfl, W, _, _, _, rfl, rfl, hW, wd_at u v hn, ?_⟩
  refine ⟨_, rfl, by rw [S_len]; exact sz (by omega), _, _, rfl, rfl, _, rfl, ?_⟩
  refine ite2 (fun h => ⟨_, rfl, by show 4 ≤ sizeLine; decide, told_lst (e2 hl n hn rfl (by have := of_decide_eq_true h; rw [S_len] at this; omega))⟩) (fun h4 => ?_)
  have h3' : ¬ x < 0 := fun z => h3 (decide_eq_true z)
  have h4' : ¬ ((wd u v n).length : Int) < x := fun z => h4 (decide_eq_true (by rw [S_len]; exact z))
  exact ⟨Nat.zero_le _, told_lst (e3 hl n x.toNat hn rfl (by omega) (by omega))⟩
end
end W8

set_option Elab.async false
set_option linter.all false
set_option maxRecDepth 100000
set_option maxHeartbeats 4000000
namespace W8
open PySem L2 NK GM
def signs : List Nat := ("abcdefghijklmnopqrstuvwxyzAXZ019 -.~" : Str).cps.toList
theorem signs_eq : S signs = "abcdefghijklmnopqrstuvwxyzAXZ019 -.~" := rfl
abbrev sStranger : Stmt := top 37
theorem scStranger : FnScope ["state", "letters", "others", "sign"] ["state", "letters"] (defScope sStranger) := ⟨rfl, rfl, rfl, by decide +kernel, rfl, by decide +kernel, by decide +kernel⟩
def spStranger (K : PySem.W.Frag) : Sp := fun vs H Q _ => ∃ (a : Addr) (al : List Nat), vs = [.ref a, .str (S al)] ∧ al.length ≤ 3 ∧ ∃ p, StOk K H a p ∧ ∀ c H', c ∉ al → But a H H' → StOk K H' a p → Q (.str (S [c])) H'
section
variable {P : Program} {w : World} {K : PySem.W.Frag} {mg : Str → Option Value} {base : Heap}
theorem ok_stranger {f : Addr} {fd : FuncData} (F : Fun K "_law_stranger" "_law_stranger" sStranger f fd) (tl : mg "len" = none) (c_law_draw : Cal P w K mg base "_law_draw" 1 ["state", "many"] (spDraw K)) : FnOk P w K mg base CX0 2 f fd ["state", "letters"] (spStranger K) := by
  refine F.ok scStranger (fun vs H Q E h => ?_) (fun cdv A outer s H vs Q E hr h => ?_)
  · obtain ⟨a, al, rfl, _⟩ := h
    rfl
  obtain ⟨a, al, rfl, hal, p, S0, q⟩ := h
  refine ⟨_, (pss_cons (ps_setLc (i := 2) (own := [("sign", 3)]) (g := gName 3) rfl scStranger.nd rfl rfl (sw_true rfl rfl rfl (by decide +kernel)) (pi_str pe_str) (blkOk_by (own := [("sign", 3)]) (N := ["state", "letters", "others", "sign"]) (sc := defScope sStranger) (by decide +kernel)) (fun _ _ _ _ _ => (pg_name (i := 3) scStranger.nd rfl (Or.inl rfl))) (fun _ _ _ _ _ => (pts_one (pt_cmpR op_notIn_sign (pv 3) (pv 1) rfl))) (fun _ _ _ _ _ => (pv 3)))
    (pss_one (ps_ret (pixL (pv 2) (pcall c_law_draw hr (pa_cons (pv 0) (pa_cons (pB1 call_len_seq tl (pv 2)) pa_nil))))))), ?_⟩
  refine ⟨_, rfl, fun L hL => ?_⟩
  refine L2.lc_it L2.walk_str (fun i H' => Same H H' ∧ H' L = some (.lst (((signs.take i).filter (fun c => !decide (c ∈ al))).map fun c => V.str (S [c])))) ⟨same_new hL _, upd_same⟩ (fun _ _ _ _ => trivial) ?_ ?_
  · rintro i x H1 H2 hi ⟨s1, hL1⟩ ⟨rfl, c, hc, rfl⟩
    have hc' : signs[i]? = some c := by
      rw [← hc]
      unfold signs
      simp
    have hl : ((signs.take i).filter (fun c => !decide (c ∈ al))).length ≤ 36 := Nat.le_trans (List.length_filter_le _ _) (by rw [List.length_take]; exact Nat.min_le_right _ _)
    refine ⟨rfl, _, rfl, _, rfl, c, S al, rfl, rfl, _, rfl, ?_⟩
    refine ite2 (fun h => ?_) (fun h => ?_)
    · refine ⟨_, rfl, _, hL1, small_lt (by rw [List.length_map]; omega), same_upd s1 hL, ?_⟩
      rw [upd_same, List.take_add_one, hc', List.filter_append, List.map_append]
      have e : ([c].filter (fun c => !decide (c ∈ al))) = [c] := by
        rw [List.filter_cons, if_pos (by exact h)]
        rfl
      exact congrArg (fun z => some (HO.lst (_ ++ List.map (fun c => V.str (S [c])) z))) e.symm
    · refine ⟨s1, ?_⟩
      rw [hL1, List.take_add_one, hc', List.filter_append]
      have e : ([c].filter (fun c => !decide (c ∈ al))) = [] := by
        rw [List.filter_cons, if_neg (by exact h)]
        rfl
      show _ = some (HO.lst (List.map _ (_ ++ List.filter _ [c])))
      rw [e, List.append_nil]
  rintro H1 ⟨s1, hL1⟩
  have et : signs.take (Str.cps "abcdefghijklmnopqrstuvwxyzAXZ019 -.~").size = signs := rfl
  rw [et] at hL1
  generalize eo : signs.filter (fun c => !decide (c ∈ al)) = os at hL1
  have l36 : os.length ≤ 36 := by rw [← eo]; exact List.length_filter_le _ _
  have hno : ∀ c ∈ os, c ∉ al := fun c hc => by
    rw [← eo] at hc
    exact decF (List.mem_filter.mp hc).2
  have l1 : 1 ≤ os.length := by
    refine List.length_pos_iff.mpr fun e => ?_
    have h4 : ∀ c ∈ signs, c ∈ al := fun c hc => by
      by_cases h : c ∈ al
      · exact h
      · have : c ∈ os := by
          rw [← eo]
          exact List.mem_filter.mpr ⟨hc, by rw [decide_eq_false h]; rfl⟩
        rw [e] at this
        cases this
    have a1 := h4 97 (by decide)
    have a2 := h4 98 (by decide)
    have a3 := h4 99 (by decide)
    have a4 := h4 100 (by decide)
    match al, hal, a1, a2, a3, a4 with
    | [], _, a1, _, _, _ => cases a1
    | [x], _, a1, a2, _, _ => simp at a1 a2; omega
    | [x, y], _, a1, a2, a3, _ => simp at a1 a2 a3; omega
    | [x, y, z], _, a1, a2, a3, a4 => simp at a1 a2 a3 a4; omega
  refine ⟨_, rfl, _, rfl, _, rfl, L, _, rfl, .inl (SqL.of hL1), a, _, rfl, ?_, ?_, p, S0.same s1, fun r H2 r0 r1 b2 S2 => ?_⟩
  · rw [List.length_map]; omega
  · rw [List.length_map]; omega
  rw [List.length_map] at r1
  obtain ⟨j, rfl⟩ : ∃ j : Nat, r = (j : Int) := ⟨r.toNat, by omega⟩
  have hj : os[j]? = some (os[j]'(by omega)) := List.getElem?_eq_getElem (by omega)
  have La : L ≠ a := by
    obtain ⟨_, _, _, _, _, st⟩ := S0
    exact Ne.symm (ne_of_none st.1 hL)
  exact ⟨L, _, _, _, rfl, rfl, SqL.of (b2 _ _ La hL1), atI_nat (by rw [List.getElem?_map, hj]; rfl), q _ H2 (hno _ (List.getElem_mem _)) ((But.of s1).trans b2) S2⟩
end
end W8

set_option Elab.async false
set_option linter.all false
set_option maxRecDepth 100000
set_option maxHeartbeats 4000000
namespace W8
open PySem L2 NK GM
def prD (prs : Prs) : List PyData := prs.map fun z => .tuple [.int (z.1 : Int), .int (z.2 : Int)]
theorem dpPairs {K : PySem.W.Frag} {H : Hp} : ∀ {ts : List Addr} {prs : Prs}, Paired (fun (t : Addr) (pr : Nat × Nat) => H t = some (.tup [natV pr.1, natV pr.2])) ts prs → DpAll K H (ts.map V.ref) (prD prs)
  | _, _, .nil => .nil
  | _, _, .cons h t => .cons (.tup (SqT.of h) (.cons (.int _) (.cons (.int _) .nil))) (dpPairs t)
abbrev sStands : Stmt := top 48
theorem scStands : FnScope ["game", "words", "pairs", "rounds"] ["game", "words", "pairs", "rounds"] (defScope sStands) := ⟨rfl, rfl, rfl, by decide +kernel, rfl, by decide +kernel, by decide +kernel⟩
def spStands (K : PySem.W.Frag) (C : Addr) : Sp := fun vs H Q _ => ∃ (p dx wt pt : Addr) (al u v : List Nat) (r : Nat) (prs : Prs) (qs : List Addr) (W a : Addr), vs = [.ref p, .ref W, .ref a, .int (r : Int)] ∧ GameSt H p C dx wt pt al u v r prs qs ∧ LawAt K H W a u v prs ∧ prs.length ≤ r ∧ r ≤ 3 ∧ ∀ H', Same H H' → Q (.bl true) H'
def spLenG (C : Addr) : Sp := fun vs H Q _ => ∃ (p dx wt pt : Addr) (al u v : List Nat) (r : Nat) (prs : Prs) (qs : List Addr), vs = [.ref p] ∧ GameSt H p C dx wt pt al u v r prs qs ∧ Q (.int (prs.length : Int)) H
section
variable {P : Program} {w : World} {K : PySem.W.Frag} {mg : Str → Option Value} {base : Heap}
theorem ok_stands {f C : Addr} {fd : FuncData} (F : Fun K "_law_stands" "_law_stands" sStands f fd) (T : GameT K mg C) (SS : SameT mg) (cs : Cal P w K mg base "_law_same" 5 ["actual", "expected"] (spSame K 5)) (cl : MCal P w K mg base C "__len__" 1 ["self"] (spLenG C)) (cw : MCal P w K mg base C "wins" 7 ["self"] (spWins C)) (lw : Cal P w K mg base "_law_wins" 7 ["words", "pairs", "left"] (spLWins K)) :
    FnOk P w K mg base CX0 8 f fd ["game", "words", "pairs", "rounds"] (spStands K C) := by
  refine F.ok scStands (fun vs H Q E h => ?_) (fun cdv A outer s H vs Q E hr h => ?_)
  · obtain ⟨p, dx, wt, pt, al, u, v, r, prs, qs, W, a, rfl, _⟩ := h
    rfl
  obtain ⟨p, dx, wt, pt, al, u, v, r, prs, qs, W, a, rfl, G, L, hp, hr3, q⟩ := h
  obtain ⟨f1, fd1, F1, m1, b1⟩ := cw.ex
  obtain ⟨f2, fd2, F2, m2, b2⟩ := cl.ex
  refine ⟨_, (pss_cons (ps_if (pt_not (pt_val (pcall cs hr (pa_cons (pe_lst (pa_cons (pe_fld (pv 0) rfl) (pa_cons (pB1 (call_lenOwn F2 m2 b2 pass0 (hr.mono (by decide))) SS.len (pv 0)) (pa_cons (pe_fld (pv 0) rfl) (pa_cons (pe_fld (pv 0) rfl) pa_nil))))) (pa_cons (pe_lst (pa_cons (pT1 (r := rTupOf K) cr_tupOf SS.tuple (pv 2)) (pa_cons (pB1 call_len_seq SS.len (pv 2)) (pa_cons (pv 1) (pa_cons (pv 3) pa_nil))))) pa_nil)))))
      pss_never
      pss_nil)
    (pss_one (ps_ret (pcall cs hr (pa_cons (pe_meth0 (pv 0) T.cl m1 F1 hr b1 .nil pass0) (pa_cons (pcall lw hr (pa_cons (pv 1) (pa_cons (pv 2) (pa_cons (pe_op op_sub (pv 3) (pB1 call_len_seq SS.len (pv 2))) pa_nil)))) pa_nil)))))), ?_⟩
  obtain ⟨ts, hts, hq⟩ := L.p
  have htl : ts.length = prs.length := Paired.length hq
  refine ⟨_, rfl, p, C, dx, _, _, rfl, G.o, T.cl, T.nP, gf_pairs _ _ _ _, _, rfl, p, dx, _, rfl, G.o, p, dx, wt, pt, al, u, v, r, prs, qs, rfl, G, prs.length, rfl, sz (by omega), ?_⟩
  refine ⟨_, rfl, p, C, dx, _, _, rfl, G.o, T.cl, T.nW, gf_words _ _ _ _, _, rfl, p, C, dx, _, _, rfl, G.o, T.cl, T.nR, gf_rounds _ _ _ _, by show 4 ≤ sizeLine; decide, fun l1 hl1 => ?_⟩
  have s1 := same_new hl1 (.lst [.ref pt, .int (prs.length : Int), .ref wt, .int (r : Int)])
  have hl1' : (upd H l1 (.lst [.ref pt, .int (prs.length : Int), .ref wt, .int (r : Int)])) l1 = some (.lst [.ref pt, .int (prs.length : Int), .ref wt, .int (r : Int)]) := upd_same
  generalize upd H l1 (.lst [.ref pt, .int (prs.length : Int), .ref wt, .int (r : Int)]) = H1 at *
  refine ⟨_, rfl, a, _, rfl, .inl ⟨SqL.of (s1 _ _ hts), fun tt htt => ?_⟩⟩
  have s2 := same_new htt (.tup (ts.map V.ref))
  have htt' : (upd H1 tt (.tup (ts.map V.ref))) tt = some (.tup (ts.map V.ref)) := upd_same
  generalize upd H1 tt (.tup (ts.map V.ref)) = H2 at *
  have s12 := s1.trans s2
  refine ⟨_, rfl, a, _, rfl, .inl (SqL.of (s12 _ _ hts)), _, rfl, _, rfl, by show 4 ≤ sizeLine; decide, fun l2 hl2 => ?_⟩
  rw [List.length_map, htl]
  have s3 := same_new hl2 (.lst [.ref tt, .int (prs.length : Int), .ref W, .int (r : Int)])
  have hl2' : (upd H2 l2 (.lst [.ref tt, .int (prs.length : Int), .ref W, .int (r : Int)])) l2 = some (.lst [.ref tt, .int (prs.length : Int), .ref W, .int (r : Int)]) := upd_same
  generalize upd H2 l2 (.lst [.ref tt, .int (prs.length : Int), .ref W, .int (r : Int)]) = H3 at *
  have s13 := s12.trans s3
  have G3 := G.mono s13
  have q3 : Paired (fun (t : Addr) (pr : Nat × Nat) => H3 t = some (.tup [natV pr.1, natV pr.2])) ts prs := Paired.mapP hq fun _ _ z => s13 _ _ z
  have L3 := L.mono s13
  refine ⟨_, _, .list [.tuple (prD prs), .int (prs.length : Int), .tuple [.str (S u), .str (S v)], .int (r : Int)], .list [.tuple (prD prs), .int (prs.length : Int), .tuple [.str (S u), .str (S v)], .int (r : Int)], rfl,
    .lst (SqL.of (s3 _ _ (s2 _ _ hl1'))) (.cons (.tup (SqT.of G3.t) (dpPairs G3.q)) (.cons (.int _) (.cons (.tup (SqT.of G3.w) (.cons (.str _) (.cons (.str _) .nil))) (.cons (.int _) .nil)))),
    .lst (SqL.of hl2') (.cons (.tup (SqT.of (s3 _ _ htt')) (dpPairs q3)) (.cons (.int _) (.cons (.tup L3.w (.cons (.str _) (.cons (.str _) .nil))) (.cons (.int _) .nil)))), ?_, fun b H4 s4 hb => ?_⟩
  · refine ⟨by show 4 ≤ 100000; omega, fun x hx => ?_⟩
    rcases List.mem_cons.mp hx with rfl | hx
    · refine ⟨by unfold prD; rw [List.length_map]; omega, fun y hy => ?_⟩
      unfold prD at hy
      obtain ⟨z, _, rfl⟩ := List.mem_map.mp hy
      refine ⟨by show 2 ≤ 100000; omega, fun y hy => ?_⟩
      rcases List.mem_cons.mp hy with rfl | hy
      · trivial
      · rw [List.mem_singleton.mp hy]; trivial
    rcases List.mem_cons.mp hx with rfl | hx
    · trivial
    rcases List.mem_cons.mp hx with rfl | hx
    · refine ⟨by show 2 ≤ 100000; omega, fun y hy => ?_⟩
      rcases List.mem_cons.mp hy with rfl | hy
      · trivial
      · rw [List.mem_singleton.mp hy]; trivial
    · rw [List.mem_singleton.mp hx]; trivial
  obtain rfl : b = true := hb.mpr rfl
  refine ⟨_, rfl, ite2 (fun z => (nomatch z)) (fun _ => ?_)⟩
  have s14 := s13.trans s4
  have G4 := G.mono s14
  refine ⟨_, rfl, p, dx, _, rfl, G4.o, gf_no _ _ _ _ (by decide +kernel), p, dx, wt, pt, al, u, v, r, prs, qs, rfl, G4, L.u60, L.v60, hr3, hp, L.i, fun b1 H5 s5 h1 => ?_⟩
  have s15 := s14.trans s5
  refine ⟨_, rfl, _, rfl, _, rfl, _, rfl, a, _, rfl, .inl (SqL.of (s15 _ _ hts)), _, _, rfl, rfl, W, a, u, v, prs, r - prs.length, ?_, L.mono s15, by omega, by omega, fun b2 H6 s6 h2 => ?_⟩
  · rw [List.length_map, htl]
    exact congrArg (fun z => [V.ref W, V.ref a, V.int z]) (by omega)
  refine ⟨_, _, .bool b1, .bool b2, rfl, .bl _, .bl _, trivial, fun b H7 s7 hb => ?_⟩
  have e : b1 = b2 := Bool.eq_iff_iff.mpr (h1.trans h2.symm)
  obtain rfl : b = true := hb.mpr (by rw [e])
  exact q H7 (s15.trans (s6.trans s7))
end
end W8

set_option Elab.async false
set_option linter.all false
set_option maxRecDepth 100000
set_option maxHeartbeats 4000000
namespace W8
open PySem L2 NK GM
theorem StOk.lst {K : PySem.W.Frag} {H : Hp} {a p : Addr} (h : StOk K H a p) : ∃ xs, H a = some (.lst xs) := by
  obtain ⟨cs, i, v, l, m, x⟩ := h
  exact ⟨_, x.h⟩
theorem StOk.lstP {K : PySem.W.Frag} {H : Hp} {a p : Addr} (h : StOk K H a p) : ∃ xs, H p = some (.lst xs) := by
  obtain ⟨cs, i, v, l, m, x⟩ := h
  exact ⟨_, x.c⟩
theorem StOk.but {K : PySem.W.Frag} {H H' : Hp} {a p b : Addr} (h : StOk K H a p) (t : But b H H') (n1 : a ≠ b) (n2 : p ≠ b) : StOk K H' a p := by
  obtain ⟨cs, i, v, l, m, x⟩ := h
  exact ⟨cs, i, v, l, m, t _ _ n1 x.h, t _ _ n2 x.c, x.ne, x.b, x.n, x.i0, x.v0, x.m0⟩
theorem seqT_but {K : PySem.W.Frag} {a W : Addr} {H H' : Hp} {xs ys : List V} (b : But a H H') (ha : H a = some (.lst ys)) (h : SqT K H W xs) : SqT K H' W xs := by
  rcases h with (h | ⟨o, h⟩) | h
  · exact .inl (.inl (b _ _ (ne_of h ha (by intro z; cases z)) h))
  · exact .inl (.inr ⟨o, b _ _ (ne_of h ha (by intro z; cases z)) h⟩)
  · exact .inr h
theorem GameSt.butL {H H' : Hp} {p C dx wt pt a : Addr} {al u v : List Nat} {r : Nat} {prs : Prs} {qs : List Addr} {ys : List V} (g : GameSt H p C dx wt pt al u v r prs qs) (b : But a H H') (ha : H a = some (.lst ys)) : GameSt H' p C dx wt pt al u v r prs qs :=
  ⟨b _ _ (ne_of g.o ha (by intro z; cases z)) g.o, b _ _ (ne_of g.w ha (by intro z; cases z)) g.w, b _ _ (ne_of g.t ha (by intro z; cases z)) g.t, Paired.mapP g.q fun _ _ z => b _ _ (ne_of z ha (by intro z; cases z)) z⟩
theorem PairsAt.butL {H H' : Hp} {L a : Addr} {ys : List V} {prs : Prs} (h : PairsAt H L prs) (b : But a H H') (ha : H a = some (.lst ys)) (n : L ≠ a) : PairsAt H' L prs := by
  obtain ⟨ts, h1, h2⟩ := h
  exact ⟨ts, b _ _ n h1, Paired.mapP h2 fun _ _ z => b _ _ (ne_of z ha (by intro z; cases z)) z⟩
theorem inb_snoc {u v : List Nat} {prs : Prs} {s x y : Nat} (h : Inb u.length v.length prs) (hx : x ≤ (wd u v s).length) (hs : s ≤ 1) (hy : y ≤ (wd u v (1 - s)).length) : Inb u.length v.length (prs ++ [mkp s x y]) := fun z hz => by
  rcases List.mem_append.mp hz with e | e
  · exact h z e
  · rw [List.mem_singleton.mp e]
    rcases s with _ | _ | s
    · exact ⟨hx, hy⟩
    · exact ⟨hy, hx⟩
    · omega
theorem But.insT {K : PySem.W.Frag} {p a C dx : Addr} {fs : List (Str × V)} {H H' : Hp} {xs : List V} (b : But p H H') (hp : H p = some (.ins C dx fs)) (h : SqT K H a xs) : SqT K H' a xs := by
  rcases h with (h | ⟨o, h⟩) | h
  · exact .inl (.inl (b _ _ (ne_of h hp (by intro z; cases z)) h))
  · exact .inl (.inr ⟨o, b _ _ (ne_of h hp (by intro z; cases z)) h⟩)
  · exact .inr h
theorem PairsAt.but {p a C dx : Addr} {fs : List (Str × V)} {H H' : Hp} {prs : Prs} (b : But p H H') (hp : H p = some (.ins C dx fs)) (h : PairsAt H a prs) : PairsAt H' a prs := by
  obtain ⟨ts, h1, h2⟩ := h
  exact ⟨ts, b _ _ (ne_of h1 hp (by intro z; cases z)) h1, Paired.mapP h2 fun _ _ z => b _ _ (ne_of z hp (by intro z; cases z)) z⟩
theorem ok_two {n : Nat} {a b : PyData} (ha : okE n a) (hb : okE n b) : okE (n + 1) (.list [a, b]) := by
  refine ⟨by show 2 ≤ 100000; decide, fun x hx => ?_⟩
  rcases List.mem_cons.mp hx with e | e
  · rw [e]; exact ha
  · rw [List.mem_singleton.mp e]; exact hb
/-- all but two objects are kept -/
def But2 (a p : Addr) (H H' : Hp) : Prop := ∀ b o, b ≠ a → b ≠ p → H b = some o → H' b = some o
theorem But2.l {a p : Addr} {H H' : Hp} (b : But a H H') : But2 a p H H' := fun c o h _ e => b c o h e
theorem But2.r {a p : Addr} {H H' : Hp} (b : But p H H') : But2 a p H H' := fun c o _ h e => b c o h e
theorem But2.s {a p : Addr} {H H' : Hp} (b : Same H H') : But2 a p H H' := fun c o _ _ e => b c o e
theorem But2.trans {a p : Addr} {H H1 H2 : Hp} (x : But2 a p H H1) (y : But2 a p H1 H2) : But2 a p H H2 := fun c o h1 h2 e => y c o h1 h2 (x c o h1 h2 e)
/-- the drawing list, the game and what the law keeps of it -/
structure DI (K : PySem.W.Frag) (H : Hp) (p C dx wt pt : Addr) (al u v : List Nat) (r : Nat) (prs : Prs) (qs : List Addr) (a pp W pa : Addr) : Prop where
  g : GameSt H p C dx wt pt al u v r prs qs
  s : StOk K H a pp
  l : LawAt K H W pa u v prs
  n : pa ≠ a
section
variable {K : PySem.W.Frag} {H H' : Hp} {p C dx wt pt : Addr} {al u v : List Nat} {r : Nat} {prs : Prs} {qs : List Addr} {a pp W pa : Addr}
theorem DI.same (h : DI K H p C dx wt pt al u v r prs qs a pp W pa) (t : Same H H') : DI K H' p C dx wt pt al u v r prs qs a pp W pa := ⟨h.g.mono t, h.s.same t, h.l.mono t, h.n⟩
theorem DI.draw (h : DI K H p C dx wt pt al u v r prs qs a pp W pa) (b : But a H H') (s : StOk K H' a pp) : DI K H' p C dx wt pt al u v r prs qs a pp W pa := by
  obtain ⟨xs, hx⟩ := h.s.lst
  exact ⟨h.g.butL b hx, s, ⟨seqT_but b hx h.l.w, h.l.p.butL b hx h.n, h.l.i, h.l.u60, h.l.v60⟩, h.n⟩
/-- the game is changed -/
theorem DI.game (h : DI K H p C dx wt pt al u v r prs qs a pp W pa) (b : But p H H') : StOk K H' a pp ∧ LawAt K H' W pa u v prs := by
  obtain ⟨xs, hx⟩ := h.s.lst
  obtain ⟨ys, hy⟩ := h.s.lstP
  exact ⟨h.s.but b (ne_of hx h.g.o (by intro z; cases z)) (ne_of hy h.g.o (by intro z; cases z)), ⟨b.insT h.g.o h.l.w, h.l.p.but b h.g.o, h.l.i, h.l.u60, h.l.v60⟩⟩
end
/-! ### what the faults of a deed are -/
structure EData (K : PySem.W.Frag) (xs : List V) (ds : List PyData) : Prop where
  d : ∀ H, DpAll K H xs ds
  ok : okE 5 (.list ds)
  sh : SeqAt.shaped (.list ds) = true
  ne : PyData.eqv (.list ds) (.list []) = false
theorem okE_flat {n : Nat} {ds : List PyData} (h : ds.length ≤ 100000) (q : ∀ x ∈ ds, okE n x) : okE (n + 1) (.list ds) := ⟨h, q⟩
theorem eData (K : PySem.W.Frag) (a b c : Str) (z : Int) (ha : PyData.strOk a = true := by decide +kernel) (hb : PyData.strOk b = true := by decide +kernel) (hc : PyData.strOk c = true := by decide +kernel) : EData K ([.str a, .str b, .str c] ++ [.int z]) [.str a, .str b, .str c, .int z] :=
  ⟨fun _ => .cons (.str _) (.cons (.str _) (.cons (.str _) (.cons (.int _) .nil))), ⟨by show 4 ≤ 100000; omega, fun x hx => by
    rcases List.mem_cons.mp hx with rfl | hx
    · trivial
    rcases List.mem_cons.mp hx with rfl | hx
    · trivial
    rcases List.mem_cons.mp hx with rfl | hx
    · trivial
    rw [List.mem_singleton.mp hx]; trivial⟩, by simp [SeqAt.shaped, PyData.canLay0, PyData.canLayAll0, ha, hb, hc, PyData.depth, PyData.depthAll], by simp [PyData.eqv, PyData.eqvAll]⟩
def FErr (u v : List Nat) (r : Nat) (prs : Prs) (s x : Int) (xs : List V) : Prop :=
  (prs.length = r ∧ xs = eL ++ [.int (r : Int)]) ∨ (prs.length < r ∧ ¬ (s = 0 ∨ s = 1) ∧ xs = eS ++ [.int s]) ∨ (prs.length < r ∧ ∃ n : Nat, n ≤ 1 ∧ s = (n : Int) ∧ ¬ (0 ≤ x ∧ x ≤ ((wd u v n).length : Int)) ∧ xs = eS ++ [.int x])
def FGood (u v : List Nat) (r : Nat) (prs : Prs) (s x : Int) (n m : Nat) : Prop := prs.length < r ∧ n ≤ 1 ∧ s = (n : Int) ∧ x = (m : Int) ∧ m ≤ (wd u v n).length
section
variable {K : PySem.W.Frag} {H : Hp} {Q : VK} {u v : List Nat} {r : Nat} {prs : Prs} {s x : Int} {xs : List V} {ok : Nat → Nat → Prop}
theorem FErr.data (h : FErr u v r prs s x xs) : ∃ ds, EData K xs ds := by
  rcases h with ⟨_, rfl⟩ | ⟨_, _, rfl⟩ | ⟨_, _, _, _, _, rfl⟩ <;> exact ⟨_, eData K _ _ _ _⟩
theorem FErr.choice (h : FErr u v r prs s x xs) (t : Told Q H xs) : ChoiceT Q H u v r prs s x ok := by
  rcases h with ⟨e, rfl⟩ | ⟨e, n, rfl⟩ | ⟨e, n, n1, rfl, hx, rfl⟩
  · exact ⟨fun _ => t, fun a => by omega, fun a => by omega, fun a => by omega⟩
  · refine ⟨fun a => by omega, fun _ _ => t, fun _ k hk e2 => ?_, fun _ k m hk e2 => ?_⟩
    · exact absurd (by omega) n
    · exact absurd (by omega) n
  · refine ⟨fun a => by omega, fun _ b => absurd (by omega) b, fun _ _ _ _ _ => t, fun _ k m hk e2 e3 e4 => ?_⟩
    have : k = n := by omega
    subst this
    exact absurd ⟨by omega, by omega⟩ hx
theorem FGood.choice {n m : Nat} (h : FGood u v r prs s x n m) (t : ok n m) : ChoiceT Q H u v r prs s x ok := by
  obtain ⟨hl, n1, rfl, rfl, hm⟩ := h
  refine ⟨fun a => by omega, fun _ b => absurd (by omega) b, fun _ k hk e2 e3 => ?_, fun _ k j hk e2 e3 e4 => ?_⟩
  · have : k = n := by omega
    subst this
    exact absurd ⟨by omega, by omega⟩ e3
  · have : k = n := by omega
    subst this
    have : j = m := by omega
    subst this
    exact t
theorem faultT_of {l : Int} (hl : l = (r : Int) - (prs.length : Int)) (hp : prs.length ≤ r) (h : ∀ fl H' xs, Same H H' → H' fl = some (.lst xs) → (FErr u v r prs s x xs ∨ (xs = [] ∧ ∃ n m, FGood u v r prs s x n m)) → Q (.ref fl) H') : FaultT Q H u v l r s x :=
  ⟨fun a fl H' t e => h fl H' _ t e (.inl (.inl ⟨by omega, rfl⟩)), fun a b fl H' t e => h fl H' _ t e (.inl (.inr (.inl ⟨by omega, b, rfl⟩))),
    fun a n n1 e1 e2 fl H' t e => h fl H' _ t e (.inl (.inr (.inr ⟨by omega, n, n1, e1, e2, rfl⟩))), fun a n m n1 e1 e2 e3 fl H' t e => h fl H' _ t e (.inr ⟨rfl, n, m, by omega, n1, e1, e2, e3⟩)⟩
end
theorem reply_uniq {n : Nat} {u v : List Nat} {prs : Prs} {s x : Nat} : ∀ {o o' : Option Nat}, ReplyIs n u v prs s x o → ReplyIs n u v prs s x o' → o = o'
  | none, none, _, _ => rfl
  | none, some y, h, ⟨hy, q, _⟩ => absurd q (h y hy)
  | some y, none, ⟨hy, q, _⟩, h => absurd q (h y hy)
  | some y, some z, ⟨hy, q, m⟩, ⟨hz, q', m'⟩ => by
    rcases Nat.lt_trichotomy y z with h | h | h
    · exact absurd q (m' y h)
    · rw [h]
    · exact absurd q' (m z h)
theorem attack_uniq {r : Nat} {u v : List Nat} {prs : Prs} : ∀ {o o' : Option (Nat × Nat)}, AttackIs r u v prs o → AttackIs r u v prs o' → o = o'
  | none, none, _, _ => rfl
  | none, some (s, x), h, ⟨hl, hs, hx, hno, _⟩ => by
    rcases h with h | h
    · omega
    · obtain ⟨y, hy, q⟩ := h s x hs hx
      exact absurd q (hno y hy)
  | some (s, x), none, ⟨hl, hs, hx, hno, _⟩, h => by
    rcases h with h | h
    · omega
    · obtain ⟨y, hy, q⟩ := h s x hs hx
      exact absurd q (hno y hy)
  | some (s, x), some (s', x'), ⟨hl, hs, hx, hno, hm⟩, ⟨_, hs', hx', hno', hm'⟩ => by
    by_cases h1 : s' < s ∨ s' = s ∧ x' < x
    · obtain ⟨y, hy, q⟩ := hm s' x' hs' hx' h1
      exact absurd q (hno' y hy)
    by_cases h2 : s < s' ∨ s = s' ∧ x < x'
    · obtain ⟨y, hy, q⟩ := hm' s x hs hx h2
      exact absurd q (hno y hy)
    have e1 : s = s' := by omega
    have e2 : x = x' := by omega
    rw [e1, e2]
def dO : Option Nat → PyData
  | some y => .int (y : Int)
  | none => .none
theorem dp_opt {K : PySem.W.Frag} {H : Hp} : ∀ o, Dp K H (optN o) (dO o)
  | some y => .int _
  | none => .non
theorem okE_dO {n : Nat} : ∀ o, okE (n + 1) (dO o)
  | some _ => trivial
  | none => trivial
def dAt : Option (Nat × Nat) → PyData
  | some (s, x) => .tuple [.int (s : Int), .int (x : Int)]
  | none => .none
theorem dp_atk {K : PySem.W.Frag} {H : Hp} : ∀ {o y}, AtkV H o y → Dp K H y (dAt o)
  | some (s, x), _, ⟨t, rfl, h⟩ => .tup (SqT.of h) (.cons (.int _) (.cons (.int _) .nil))
  | none, _, rfl => .non
theorem okE_dAt {n : Nat} : ∀ o, okE (n + 2) (dAt o)
  | some (s, x) => ⟨by show 2 ≤ 100000; omega, fun y hy => by
      rcases List.mem_cons.mp hy with e | e
      · rw [e]; trivial
      · rw [List.mem_singleton.mp e]; trivial⟩
  | none => trivial
theorem AtkV.mono {H H' : Hp} (t : Same H H') : ∀ {o y}, AtkV H o y → AtkV H' o y
  | some (s, x), _, ⟨q, rfl, h⟩ => ⟨q, rfl, t _ _ h⟩
  | none, _, rfl => rfl
theorem max3 (a b : Nat) : ∃ m : Nat, nuMax3 (.int (a : Int)) (.int (b : Int)) (.int 0) = some (.int (m : Int)) ∧ m ≤ a + b := by
  have e : ∀ x y : Int, nuMax2 (.int x) (.int y) = some (if decide (x < y) = true then .int y else .int x) := fun _ _ => rfl
  refine ⟨max a b, ?_, by omega⟩
  unfold nuMax3
  rw [e]
  show nuMax2 (if decide ((a : Int) < (b : Int)) = true then V.int (b : Int) else V.int (a : Int)) (.int 0) = _
  by_cases h : (a : Int) < b
  · rw [if_pos (decide_eq_true h), e, if_neg (fun z => by have := of_decide_eq_true z; omega), Nat.max_eq_right (by omega)]
  · rw [if_neg (fun z => h (of_decide_eq_true z)), e, if_neg (fun z => by have := of_decide_eq_true z; omega), Nat.max_eq_left (by omega)]
end W8

set_option Elab.async false
set_option linter.all false
set_option maxRecDepth 100000
set_option maxHeartbeats 4000000
namespace W8
open PySem L2 NK GM
abbrev sDeed : Stmt := top 49
theorem scDeed : FnScope ["state", "game", "words", "pairs", "rounds", "way", "side", "most", "place", "answer", "left", "fault", "due", "pair"] ["state", "game", "words", "pairs", "rounds"] (defScope sDeed) := ⟨rfl, rfl, rfl, by decide +kernel, rfl, by decide +kernel, by decide +kernel⟩
def spDeed (K : PySem.W.Frag) (C : Addr) : Sp := fun vs H Q _ => ∃ (p dx wt pt : Addr) (al u v : List Nat) (r : Nat) (prs : Prs) (qs : List Addr) (a pp W pa : Addr), vs = [.ref a, .ref p, .ref W, .ref pa, .int (r : Int)] ∧ DI K H p C dx wt pt al u v r prs qs a pp W pa ∧ prs.length ≤ r ∧ r ≤ 3 ∧
  ∀ l H' pt' prs' qs' pa', But2 a p H H' → DI K H' p C dx wt pt' al u v r prs' qs' a pp W pa' → prs'.length ≤ r → H' l = some (.lst [.bl true, .ref pa']) → Q (.ref l) H'
def spBack2 (C : Addr) : Sp := fun vs H Q _ => ∃ (p dx wt pt : Addr) (al u v : List Nat) (r : Nat) (prs : Prs) (qs : List Addr), vs = [.ref p] ∧ GameSt H p C dx wt pt al u v r prs qs ∧
  ∀ b H' pt' qs', But p H H' → GameSt H' p C dx wt pt' al u v r prs.dropLast qs' → (b = true ↔ prs ≠ []) → Q (.bl b) H'
/-- a promise that asks more -/
theorem fn_weak {P : Program} {w : World} {K : PySem.W.Frag} {mg : Str → Option Value} {base : Heap} {CX : CXT} {k : Nat} {f : Addr} {fd : FuncData} {ps : List Str} {sp sp2 : Sp} (h : FnOk P w K mg base CX k f fd ps sp) (q : ∀ vs H Q E, sp2 vs H Q E → sp vs H Q E) : FnOk P w K mg base CX k f fd ps sp2 :=
  ⟨fun vs H Q E x => h.len vs H Q E (q _ _ _ _ x), fun A outer s H args us vs Q E room e0 hb hv x => h.run A outer s H args us vs Q E room e0 hb hv (q _ _ _ _ x)⟩
theorem back2 {C : Addr} (vs : List V) (H : Hp) (Q : VK) (E : XK) (h : spBack2 C vs H Q E) : spBack C vs H Q E := by
  obtain ⟨p, dx, wt, pt, al, u, v, r, prs, qs, e, G, q⟩ := h
  exact ⟨p, dx, wt, pt, al, u, v, r, prs, qs, e, G, fun e => q false H pt qs (But.refl _ _) (by subst e; exact G) ⟨fun z => (nomatch z), fun z => absurd e z⟩, fun e H' pt' qs' b g => q true H' pt' qs' b g ⟨fun _ => e, fun _ => rfl⟩⟩
theorem cut_most (xs : List V) (k : Int) (h : k = if ((xs.length : Int) - 1) > 0 then (xs.length : Int) - 1 else 0) : cutV xs none (some k) = xs.dropLast := by
  have e : k = ((xs.length - 1 : Nat) : Int) := by
    rw [h]
    by_cases z : ((xs.length : Int) - 1) > 0
    · rw [if_pos z]; omega
    · rw [if_neg z]; omega
  unfold cutV
  rw [e, HT.sIx_none, HT.sIx_nat, List.drop_zero, Nat.sub_zero, List.dropLast_eq_take, Nat.min_eq_left (by omega)]
theorem inb_drop {n m : Nat} {prs : Prs} (h : Inb n m prs) : Inb n m prs.dropLast := fun x hx => h x ((List.dropLast_sublist _).subset hx)
/-- what play tells -/
def PlayOk (Q : VK) (H : Hp) (p C dx wt : Addr) (al u v : List Nat) (r : Nat) (prs : Prs) (y : Int) (n m : Nat) : Prop :=
  (¬ (0 ≤ y ∧ y ≤ ((wd u v (1 - n)).length : Int)) → Told Q H (eS ++ [.int y])) ∧
    ∀ k : Nat, y = (k : Int) → k ≤ (wd u v (1 - n)).length → ∀ l H' pt' qs', But p H H' → GameSt H' p C dx wt pt' al u v r (prs ++ [mkp n m k]) qs' → H' l = some (.lst [.non]) → Q (.ref l) H'
theorem mkp_at {n x y : Nat} (hn : n ≤ 1) {t0 t1 : Addr} {H : Hp} (h0 : H t0 = some (.tup [natV x, natV y])) (h1 : H t1 = some (.tup [natV y, natV x])) : ∃ t, atI [V.ref t0, V.ref t1] (n : Int) = some (.ref t) ∧ H t = some (.tup [natV (mkp n x y).1, natV (mkp n x y).2]) := by
  rcases n with _ | _ | n
  · exact ⟨t0, rfl, h0⟩
  · exact ⟨t1, rfl, h1⟩
  · omega
section
variable {P : Program} {w : World} {K : PySem.W.Frag} {mg : Str → Option Value} {base : Heap}
structure DeedC (P : Program) (w : World) (K : PySem.W.Frag) (mg : Str → Option Value) (base : Heap) (C : Addr) : Prop where
  T : GameT K mg C
  S : SameT mg
  max : mg "max" = none
  draw : Cal P w K mg base "_law_draw" 1 ["state", "many"] (spDraw K)
  same : Cal P w K mg base "_law_same" 5 ["actual", "expected"] (spSame K 5)
  fault : Cal P w K mg base "_law_fault" 1 ["words", "left", "rounds", "side", "place"] (spFault K)
  lreply : Cal P w K mg base "_law_reply" 6 ["words", "pairs", "left", "side", "place"] (spLReply K)
  lattack : Cal P w K mg base "_law_attack" 7 ["words", "pairs", "left"] (spLAttack K)
  replied : Cal P w K mg base "_law_replied" 8 ["game", "side", "place"] (spReplied C)
  played : Cal P w K mg base "_law_played" 6 ["game", "side", "place", "answer"] (spPlayed C)
  back : MCal P w K mg base C "back" 1 ["self"] (spBack2 C)
  attack : MCal P w K mg base C "attack" 7 ["self"] (spAttack C)
theorem ok_deed {f C : Addr} {fd : FuncData} (F : Fun K "_law_deed" "_law_deed" sDeed f fd) (c : DeedC P w K mg base C) : FnOk P w K mg base CX0 9 f fd ["state", "game", "words", "pairs", "rounds"] (spDeed K C) := by
  refine F.ok scDeed (fun vs H Q E h => ?_) (fun cdv A outer s H vs Q E hr h => ?_)
  · obtain ⟨p, dx, wt, pt, al, u, v, r, prs, qs, a, pp, W, pa, rfl, _⟩ := h
    rfl
  obtain ⟨p, dx, wt, pt, al, u, v, r, prs, qs, a, pp, W, pa, rfl, I, hpr, hr3, q⟩ := h
  obtain ⟨f1, fd1, F1, m1, b1⟩ := c.back.ex
  obtain ⟨f2, fd2, F2, m2, b2⟩ := c.attack.ex
  have T := c.T
  have tl := c.S.len
  refine ⟨_, (pss_cons (ps_set (i := 5) scDeed.nd rfl (Or.inl rfl) (pcall c.draw hr (pa_cons (pv 0) (pa_cons pe_int pa_nil))))
    (pss_cons (ps_set (i := 6) scDeed.nd rfl (Or.inl rfl) (pcall c.draw hr (pa_cons (pv 0) (pa_cons pe_int pa_nil))))
    (C8.pss_cut (ps_if (pt_cmpR op_eq (pcall c.draw hr (pa_cons (pv 0) (pa_cons pe_int pa_nil))) pe_int (nomark _))
      (pss_one (ps_set (i := 6) scDeed.nd rfl (Or.inl rfl) (pe_op op_sub (pe_op op_mul pe_int (pv 6)) pe_int)))
      pss_nil)
    (pss_cons (ps_set (i := 7) scDeed.nd rfl (Or.inl rfl) (pe_callB (call_max3Nu rfl) (by rfl) c.max (by decide +kernel) (pa_cons (pB1 call_len_str tl (pixT (pv 2) pe_int)) (pa_cons (pB1 call_len_str tl (pixT (pv 2) pe_int)) (pa_cons pe_int pa_nil)))))
    (pss_cons (ps_set (i := 8) scDeed.nd rfl (Or.inl rfl) (pe_op op_sub (pcall c.draw hr (pa_cons (pv 0) (pa_cons (pe_op op_add (pv 7) pe_int) pa_nil))) pe_int))
    (pss_cons (ps_set (i := 9) scDeed.nd rfl (Or.inl rfl) (pe_op op_sub (pcall c.draw hr (pa_cons (pv 0) (pa_cons (pe_op op_add (pv 7) pe_int) pa_nil))) pe_int))
    (pss_cons (ps_set (i := 10) scDeed.nd rfl (Or.inl rfl) (pe_op op_sub (pv 4) (pB1 call_len_seq tl (pv 3))))
    (pss_cons (ps_set (i := 11) scDeed.nd rfl (Or.inl rfl) (pcall c.fault hr (pa_cons (pv 2) (pa_cons (pv 10) (pa_cons (pv 4) (pa_cons (pv 6) (pa_cons (pv 8) pa_nil)))))))
    (pss_cons (ps_if (pt_cmpR op_eq (pv 5) pe_int (nomark _))
      (pss_one (ps_ret (pe_lst (pa_cons (pcall c.same hr (pa_cons (pe_meth0 (pv 1) T.cl m1 F1 (hr.mono (by decide)) b1 .nil pass0) (pa_cons (pe_cmpR op_gt (pB1 call_len_seq tl (pv 3)) pe_int (nomark _)) pa_nil))) (pa_cons (pe_slice sl_list (pv 3) po_none (po_some (pe_callB (call_max2 rfl) (by rfl) c.max (by decide +kernel) (pa_cons pe_int (pa_cons (pe_op op_sub (pB1 call_len_seq tl (pv 3)) pe_int) pa_nil))))) pa_nil)))))
      pss_nil)
    (pss_cons (ps_if (pt_cmpR op_eq (pv 5) pe_int (nomark _))
      (pss_cons (ps_set (i := 12) scDeed.nd rfl (Or.inl rfl) (pv 11))
      (pss_cons (ps_if (pt_cmpR (op_eqD hr.units) (pv 11) (pe_lst pa_nil) (nomark _))
        (pss_one (ps_set (i := 12) scDeed.nd rfl (Or.inl rfl) (pe_lst (pa_cons (pcall c.lreply hr (pa_cons (pv 2) (pa_cons (pv 3) (pa_cons (pv 10) (pa_cons (pv 6) (pa_cons (pv 8) pa_nil)))))) pa_nil))))
        pss_nil)
      (pss_one (ps_ret (pe_lst (pa_cons (pcall c.same hr (pa_cons (pcall c.replied hr (pa_cons (pv 1) (pa_cons (pv 6) (pa_cons (pv 8) pa_nil)))) (pa_cons (pv 12) pa_nil))) (pa_cons (pv 3) pa_nil)))))))
      pss_nil)
    (pss_cons (ps_if (pt_cmpR op_eq (pv 5) pe_int (nomark _))
      (pss_one (ps_ret (pe_lst (pa_cons (pcall c.same hr (pa_cons (pe_meth0 (pv 1) T.cl m2 F2 (hr.mono (by decide)) b2 .nil pass0) (pa_cons (pcall c.lattack hr (pa_cons (pv 2) (pa_cons (pv 3) (pa_cons (pv 10) pa_nil)))) pa_nil))) (pa_cons (pv 3) pa_nil)))))
      pss_nil)
    (C8.pss_cut (ps_if (PW.pt (pw_and (pt_cmpR (op_eqD hr.units) (pv 11) (pe_lst pa_nil) (nomark _)) (pw_and1 (PW.pt (pw_or (pt_cmpR op_lt (pv 9) pe_int (nomark _)) (pw_or1 (pt_cmpR op_gt (pv 9) (pB1 call_len_str tl (pixT (pv 2) (pe_op op_sub pe_int (pv 6)))) (nomark _))))))))
      (pss_one (ps_set (i := 11) scDeed.nd rfl (Or.inl rfl) (pe_lst (pa_cons pe_str (pa_cons pe_str (pa_cons pe_str (pa_cons (pv 9) pa_nil)))))))
      pss_nil)
    (pss_cons (ps_if (pt_cmpR (op_neD hr.units) (pv 11) (pe_lst pa_nil) (nomark _))
      (pss_one (ps_ret (pe_lst (pa_cons (pcall c.same hr (pa_cons (pcall c.played hr (pa_cons (pv 1) (pa_cons (pv 6) (pa_cons (pv 8) (pa_cons (pv 9) pa_nil))))) (pa_cons (pv 11) pa_nil))) (pa_cons (pv 3) pa_nil)))))
      pss_nil)
    (pss_cons (ps_set (i := 13) scDeed.nd rfl (Or.inl rfl) (pixL (pe_lst (pa_cons (pe_tup (pa_cons (pv 8) (pa_cons (pv 9) pa_nil))) (pa_cons (pe_tup (pa_cons (pv 9) (pa_cons (pv 8) pa_nil))) pa_nil))) (pv 6)))
    (pss_one (ps_ret (pe_lst (pa_cons (pcall c.same hr (pa_cons (pcall c.played hr (pa_cons (pv 1) (pa_cons (pv 6) (pa_cons (pv 8) (pa_cons (pv 9) pa_nil))))) (pa_cons (pe_lst (pa_cons pe_non pa_nil)) pa_nil))) (pa_cons (pe_op op_cat (pv 3) (pe_lst (pa_cons (pv 13) pa_nil))) pa_nil))))))))))))))))))), ?_⟩
  have hu := I.l.u60
  have hv := I.l.v60
  refine ⟨_, rfl, a, 6, rfl, by omega, by omega, pp, I.s, fun way H1 w0 w1 B1 S1 => ?_⟩
  have I1 := I.draw B1 S1
  refine ⟨_, rfl, a, 2, rfl, by omega, by omega, pp, S1, fun sd0 H2 d0 d1 B2 S2 => ?_⟩
  have I2 := I1.draw B2 S2
  refine ⟨fun σ' H' => ∃ sd : Int, σ' = [some (.ref a), some (.ref p), some (.ref W), some (.ref pa), some (.int (r : Int)), some (.int way), some (.int sd), none, none, none, none, none, none, none] ∧ But a H H' ∧ DI K H' p C dx wt pt al u v r prs qs a pp W pa, ?_, ?_⟩
  · refine ⟨_, rfl, a, 8, rfl, by omega, by omega, pp, S2, fun d H3 e0 e1 B3 S3 => ⟨rfl, _, rfl, ?_⟩⟩
    have I3 := I2.draw B3 S3
    refine ite2 (fun _ => ?_) (fun _ => ⟨sd0, rfl, B1.trans (B2.trans B3), I3⟩)
    exact ⟨_, rfl, _, _, rfl, rfl, .inl ⟨by decide, by decide⟩, _, _, rfl, rfl, _, rfl, B1.trans (B2.trans B3), I3⟩
  rintro σ3 H3 ⟨sd, rfl, B3, I3⟩
  clear I2 I1 S2 S1 B2 B1
  obtain ⟨most, hmost, hm⟩ := max3 u.length v.length
  refine ⟨_, rfl, W, _, 0, .str (S u), rfl, rfl, I3.l.w, rfl, _, rfl, sz (by rw [S_len]; omega), _, rfl, W, _, 1, .str (S v), rfl, rfl, I3.l.w, rfl, _, rfl, sz (by rw [S_len]; omega), _, _, _, _, rfl, hmost, ?_⟩
  refine ⟨_, rfl, _, rfl, _, _, rfl, rfl, a, (most : Int) + 3, rfl, by omega, by omega, pp, I3.s, fun x0 H4 x0a x0b B4 S4 => ⟨_, _, rfl, rfl, ?_⟩⟩
  have I4 := I3.draw B4 S4
  refine ⟨_, rfl, _, rfl, _, _, rfl, rfl, a, (most : Int) + 3, rfl, by omega, by omega, pp, I4.s, fun y0 H5 y0a y0b B5 S5 => ⟨_, _, rfl, rfl, ?_⟩⟩
  have I5 := I4.draw B5 S5
  have B5' : But a H H5 := B3.trans (B4.trans B5)
  dsimp only
  generalize x0 - 1 = x
  generalize y0 - 1 = y
  clear I4 I3 S5 S4 B5 B4 B3 x0a x0b y0a y0b
  obtain ⟨ts, hts, htq⟩ := I5.l.p
  have htl : ts.length = prs.length := Paired.length htq
  refine ⟨_, rfl, _, rfl, pa, _, rfl, .inl (SqL.of hts), _, _, rfl, rfl, ?_⟩
  dsimp only
  have el : (r : Int) - ((ts.map V.ref).length : Int) = (r : Int) - (prs.length : Int) := by rw [List.length_map, htl]
  refine ⟨_, rfl, _, rfl, _, rfl, _, rfl, _, rfl, W, u, v, _, _, _, _, rfl, I5.l.w, hu, hv, faultT_of el hpr fun fl H6 xs s6 h6 fc => ?_⟩
  have I6 := I5.same s6
  have hts6 := s6 _ _ hts
  have B6 : But a H H6 := B5'.same s6
  have fin : ∀ l H' pt' qs' prs' pa', But2 a p H6 H' → DI K H' p C dx wt pt' al u v r prs' qs' a pp W pa' → prs'.length ≤ r → H' l = some (.lst [.bl true, .ref pa']) → Q (.ref l) H' := fun l H' pt' qs' prs' pa' b i h1 h2 => q l H' pt' prs' qs' pa' ((But2.l B6).trans b) i h1 h2
  clear q
  have fin0 : ∀ H' , Same H6 H' → ∀ l, H' l = none → Q (.ref l) (upd H' l (.lst [.bl true, .ref pa])) := fun H' s l hl => fin l _ pt qs prs pa (But2.s (s.trans (same_new hl _))) (I6.same (s.trans (same_new hl _))) hpr upd_same
  -- back
  refine ⟨_, rfl, rfl, _, rfl, ?_⟩
  refine ite2 (fun _ => ?_) (fun _ => ?_)
  · refine ⟨_, rfl, p, dx, _, rfl, I6.g.o, gf_no _ _ _ _ (by decide +kernel), p, dx, wt, pt, al, u, v, r, prs, qs, rfl, I6.g, fun bb H7 pt7 qs7 b7 g7 hbb => ?_⟩
    obtain ⟨S7, L7⟩ := I6.game b7
    have hts7 := b7 _ _ (ne_of hts6 I6.g.o (by intro z; cases z)) hts6
    refine ⟨_, rfl, pa, _, rfl, .inl (SqL.of hts7), _, _, rfl, rfl, ?_⟩
    refine ⟨_, _, .bool bb, .bool (decide ((((ts.map V.ref).length : Nat) : Int) > 0)), rfl, .bl _, .bl _, trivial, fun b8 H8 s8 hb8 => ?_⟩
    have hbe : bb = decide ((((ts.map V.ref).length : Nat) : Int) > 0) := by
      rw [List.length_map, htl]
      refine Bool.eq_iff_iff.mpr (hbb.trans ?_)
      rw [decide_eq_true_iff, ← List.length_pos_iff]
      omega
    obtain rfl : b8 = true := hb8.mpr (by rw [hbe])
    have hts8 := s8 _ _ hts7
    refine ⟨_, rfl, _, rfl, pa, _, rfl, .inl (SqL.of hts8), _, _, rfl, rfl, _, _, rfl, _, rfl, pa, _, rfl, SqL.of hts8, fun l3 hl3 => ?_⟩
    rw [cut_most _ _ rfl, ← List.map_dropLast]
    have s9 := same_new hl3 (.lst (ts.dropLast.map V.ref))
    have hl3' : (upd H8 l3 (.lst (ts.dropLast.map V.ref))) l3 = some (.lst (ts.dropLast.map V.ref)) := upd_same
    generalize upd H8 l3 (.lst (ts.dropLast.map V.ref)) = H9 at *
    refine ⟨by show 2 ≤ sizeLine; decide, fun l hl => ?_⟩
    have s10 := same_new hl (.lst [.bl true, .ref l3])
    have s7t := s8.trans (s9.trans s10)
    refine fin l _ pt7 qs7 prs.dropLast l3 ((But2.r b7).trans (But2.s s7t)) ⟨g7.mono s7t, S7.same s7t, ⟨(L7.mono s7t).w, ⟨ts.dropLast, s10 _ _ hl3', Paired.mapP (paired_init htq) fun _ _ z => ?_⟩, inb_drop I6.l.i, hu, hv⟩, ?_⟩ (by rw [List.length_dropLast]; omega) upd_same
    · exact s7t _ _ (b7 _ _ (ne_of (s6 _ _ z) I6.g.o (by intro z; cases z)) (s6 _ _ z))
    · obtain ⟨zs, hz⟩ := (S7.same s8).lst
      exact Ne.symm (ne_of_none hz hl3)
  -- reply
  refine ⟨_, rfl, rfl, _, rfl, ?_⟩
  refine ite2 (fun _ => ?_) (fun _ => ?_)
  · refine ⟨_, rfl, ?_⟩
    refine ⟨_, rfl, Nat.zero_le _, fun l0 hl0 => ?_⟩
    have s7 := same_new hl0 (.lst [])
    have hl0' : (upd H6 l0 (.lst [])) l0 = some (.lst []) := upd_same
    generalize upd H6 l0 (.lst []) = H7 at *
    have I7 := I6.same s7
    rcases fc with fe | ⟨rfl, n, m, fg⟩
    · obtain ⟨ds, ed⟩ := fe.data
      refine ⟨.list ds, .list [], .lst (SqL.of (s7 _ _ h6)) (ed.d _), .lst (SqL.of hl0') .nil, ed.sh, rfl, _, rfl, ?_⟩
      rw [ed.ne]
      refine ite2 (fun z => (nomatch z)) (fun _ => ?_)
      refine ⟨_, rfl, _, rfl, _, rfl, p, dx, wt, pt, al, u, v, r, _, _, prs, qs, rfl, I7.g, hu, hv, hr3, hpr, I7.l.i, fe.choice fun l8 H8 s8 h8 => ?_⟩
      refine ⟨_, rfl, _, _, .list ds, .list ds, rfl, .lst (SqL.of h8) (ed.d _), .lst (SqL.of (s8 _ _ (s7 _ _ h6))) (ed.d _), ed.ok, fun b9 H9 s9 hb9 => ?_⟩
      obtain rfl : b9 = true := hb9.mpr rfl
      exact ⟨_, rfl, by show 2 ≤ sizeLine; decide, fun l hl => fin0 H9 (s7.trans (s8.trans s9)) l hl⟩
    · refine ⟨.list [], .list [], .lst (SqL.of (s7 _ _ h6)) .nil, .lst (SqL.of hl0') .nil, rfl, rfl, _, rfl, ?_⟩
      refine ite2 (fun _ => ?_) (fun z => absurd rfl z)
      obtain ⟨hlt, n1, e1, e2, hm2⟩ := id fg
      refine ⟨_, rfl, _, rfl, _, rfl, _, rfl, _, rfl, W, pa, u, v, prs, r - prs.length - 1, n, m, ?_, I7.l, by omega, by omega, n1, hm2, fun o H8 s8 ho => ?_⟩
      · rw [el, e1, e2]
        exact congrArg (fun z => [V.ref W, V.ref pa, V.int z, V.int (n : Int), V.int (m : Int)]) (by omega)
      refine ⟨by show 1 ≤ sizeLine; decide, fun l9 hl9 => ?_⟩
      have s9 := same_new hl9 (.lst [optN o])
      have hl9' : (upd H8 l9 (.lst [optN o])) l9 = some (.lst [optN o]) := upd_same
      generalize upd H8 l9 (.lst [optN o]) = H9 at *
      have I9 := I7.same (s8.trans s9)
      refine ⟨_, rfl, _, rfl, _, rfl, p, dx, wt, pt, al, u, v, r, _, _, prs, qs, rfl, I9.g, hu, hv, hr3, hpr, I9.l.i, fg.choice fun o2 ho2 l10 H10 s10 h10 => ?_⟩
      obtain rfl := reply_uniq ho ho2
      refine ⟨_, rfl, _, _, .list [dO o], .list [dO o], rfl, .lst (SqL.of h10) (.cons (dp_opt o) .nil), .lst (SqL.of (s10 _ _ hl9')) (.cons (dp_opt o) .nil), ⟨by show 1 ≤ 100000; omega, fun x hx => by rw [List.mem_singleton.mp hx]; exact okE_dO o⟩, fun b11 H11 s11 hb11 => ?_⟩
      obtain rfl : b11 = true := hb11.mpr rfl
      exact ⟨_, rfl, by show 2 ≤ sizeLine; decide, fun l hl => fin0 H11 (s7.trans (s8.trans (s9.trans (s10.trans s11)))) l hl⟩
  -- attack
  refine ⟨_, rfl, rfl, _, rfl, ?_⟩
  refine ite2 (fun _ => ?_) (fun _ => ?_)
  · refine ⟨_, rfl, p, dx, _, rfl, I6.g.o, gf_no _ _ _ _ (by decide +kernel), p, dx, wt, pt, al, u, v, r, prs, qs, rfl, I6.g, hu, hv, hr3, hpr, I6.l.i, fun o y1 H7 s7 ho hy1 => ?_⟩
    have I7 := I6.same s7
    refine ⟨_, rfl, _, rfl, _, rfl, W, pa, u, v, prs, r - prs.length, ?_, I7.l, by omega, by omega, fun o2 y2 H8 s8 ho2 hy2 => ?_⟩
    · rw [el]
      exact congrArg (fun z => [V.ref W, V.ref pa, V.int z]) (by omega)
    rw [show prs.length + (r - prs.length) = r by omega] at ho2
    obtain rfl := attack_uniq ho ho2
    refine ⟨_, _, dAt o, dAt o, rfl, dp_atk (hy1.mono s8), dp_atk hy2, okE_dAt o, fun b9 H9 s9 hb9 => ?_⟩
    obtain rfl : b9 = true := hb9.mpr rfl
    exact ⟨_, rfl, by show 2 ≤ sizeLine; decide, fun l hl => fin0 H9 (s7.trans (s8.trans s9)) l hl⟩
  -- the answer
  refine ⟨fun σ' H' => ∃ (fl : Addr) (xs : List V) (z : Option V), σ' = [some (.ref a), some (.ref p), some (.ref W), some (.ref pa), some (.int (r : Int)), some (.int way), some (.int sd), some (.int (most : Int)), some (.int x), some (.int y), z, some (.ref fl), none, none] ∧ Same H6 H' ∧ H' fl = some (.lst xs) ∧
    ((∃ ds, EData K xs ds ∧ ∀ (Q : VK) H, Told Q H xs → ChoiceT Q H u v r prs sd x (PlayOk Q H p C dx wt al u v r prs y)) ∨ (xs = [] ∧ ∃ (n m k : Nat), FGood u v r prs sd x n m ∧ y = (k : Int) ∧ k ≤ (wd u v (1 - n)).length)), ?_, ?_⟩
  · refine ⟨_, rfl, Nat.zero_le _, fun l0 hl0 => ?_⟩
    have s7 := same_new hl0 (.lst [])
    have hl0' : (upd H6 l0 (.lst [])) l0 = some (.lst []) := upd_same
    generalize upd H6 l0 (.lst []) = H7 at *
    have I7 := I6.same s7
    rcases fc with fe | ⟨rfl, n, m, fg⟩
    · obtain ⟨ds, ed⟩ := fe.data
      refine ⟨.list ds, .list [], .lst (SqL.of (s7 _ _ h6)) (ed.d _), .lst (SqL.of hl0') .nil, ed.sh, rfl, _, rfl, ?_⟩
      rw [ed.ne]
      refine ite2 (fun z => (nomatch z)) (fun _ => ?_)
      exact ⟨fl, xs, _, rfl, s7, s7 _ _ h6, .inl ⟨ds, ed, fun Q H t => fe.choice t⟩⟩
    · refine ⟨.list [], .list [], .lst (SqL.of (s7 _ _ h6)) .nil, .lst (SqL.of hl0') .nil, rfl, rfl, _, rfl, ?_⟩
      refine ite2 (fun _ => ?_) (fun z => absurd rfl z)
      obtain ⟨hlt, n1, e1, e2, hm2⟩ := id fg
      have bad : ¬ (0 ≤ y ∧ y ≤ ((wd u v (1 - n)).length : Int)) → ∃ ds, EData K (eS ++ [.int y]) ds ∧ ∀ (Q : VK) H, Told Q H (eS ++ [.int y]) → ChoiceT Q H u v r prs sd x (PlayOk Q H p C dx wt al u v r prs y) := fun hb => ⟨_, eData K _ _ _ _, fun Q H t => fg.choice ⟨fun _ => t, fun k e k1 => absurd ⟨by omega, by omega⟩ hb⟩⟩
      refine ⟨_, rfl, _, _, rfl, rfl, _, rfl, ?_⟩
      refine ite2 (fun h => ?_) (fun h1 => ?_)
      · exact ⟨_, rfl, by show 4 ≤ sizeLine; decide, fun l1 hl1 => ⟨l1, eS ++ [.int y], _, rfl, s7.trans (same_new hl1 _), upd_same, .inl (bad (fun z => by have := of_decide_eq_true h; omega))⟩⟩
      have h1' : ¬ y < 0 := fun z => h1 (decide_eq_true z)
      subst e1
      refine ⟨_, rfl, _, rfl, _, rfl, _, _, rfl, rfl, W, _, _, _, rfl, rfl, I7.l.w, wd_at1 u v n1, _, rfl, by rw [S_len]; exact sz (by have := wd_len (s := 1 - n) hu hv; omega), _, _, rfl, rfl, _, rfl, ?_⟩
      refine ite2 (fun h => ?_) (fun h2 => ?_)
      · exact ⟨_, rfl, by show 4 ≤ sizeLine; decide, fun l1 hl1 => ⟨l1, eS ++ [.int y], _, rfl, s7.trans (same_new hl1 _), upd_same, .inl (bad (fun z => by have := of_decide_eq_true h; rw [S_len] at this; omega))⟩⟩
      have h2' : ¬ ((wd u v (1 - n)).length : Int) < y := fun z => h2 (decide_eq_true (by rw [S_len]; exact z))
      exact ⟨fl, [], _, rfl, s7, s7 _ _ h6, .inr ⟨rfl, n, m, y.toNat, fg, by omega, by omega⟩⟩
  rintro σ7 H7 ⟨fl, xs, z7, rfl, s7, h7, fc7⟩
  have I7 := I6.same s7
  have hts7 := s7 _ _ hts6
  refine ⟨_, rfl, Nat.zero_le _, fun l0 hl0 => ?_⟩
  have s8 := same_new hl0 (.lst [])
  have hl0' : (upd H7 l0 (.lst [])) l0 = some (.lst []) := upd_same
  generalize upd H7 l0 (.lst []) = H8 at *
  have I8 := I7.same s8
  rcases fc7 with ⟨ds, ed, ch⟩ | ⟨rfl, n, m, k, fg, ek, hk⟩
  · refine ⟨.list ds, .list [], .lst (SqL.of (s8 _ _ h7)) (ed.d _), .lst (SqL.of hl0') .nil, ed.sh, rfl, _, rfl, ?_⟩
    rw [ed.ne]
    refine ite2 (fun _ => ?_) (fun z => absurd rfl z)
    refine ⟨_, rfl, _, rfl, _, rfl, _, rfl, p, dx, wt, pt, al, u, v, r, _, _, _, prs, qs, rfl, I8.g, hu, hv, hr3, hpr, ch _ _ fun l9 H9 s9 h9 => ?_⟩
    refine ⟨_, rfl, _, _, .list ds, .list ds, rfl, .lst (SqL.of h9) (ed.d _), .lst (SqL.of (s9 _ _ (s8 _ _ h7))) (ed.d _), ed.ok, fun b10 H10 s10 hb10 => ?_⟩
    obtain rfl : b10 = true := hb10.mpr rfl
    exact ⟨_, rfl, by show 2 ≤ sizeLine; decide, fun l hl => fin0 H10 (s7.trans (s8.trans (s9.trans s10))) l hl⟩
  · refine ⟨.list [], .list [], .lst (SqL.of (s8 _ _ h7)) .nil, .lst (SqL.of hl0') .nil, rfl, rfl, _, rfl, ?_⟩
    refine ite2 (fun z => (nomatch z)) (fun _ => ?_)
    obtain ⟨hlt, n1, e1, e2, hm2⟩ := id fg
    subst e1 e2 ek
    refine ⟨_, rfl, _, rfl, by show 2 ≤ sizeLine; decide, fun t0 ht0 => ?_⟩
    have s9 := same_new ht0 (.tup [V.int (m : Int), V.int (k : Int)])
    have ht0' : (upd H8 t0 (.tup [V.int (m : Int), V.int (k : Int)])) t0 = some (.tup [V.int (m : Int), V.int (k : Int)]) := upd_same
    generalize upd H8 t0 (.tup [V.int (m : Int), V.int (k : Int)]) = H9 at *
    refine ⟨_, rfl, _, rfl, by show 2 ≤ sizeLine; decide, fun t1 ht1 => ?_⟩
    have s10 := same_new ht1 (.tup [V.int (k : Int), V.int (m : Int)])
    have ht1' : (upd H9 t1 (.tup [V.int (k : Int), V.int (m : Int)])) t1 = some (.tup [V.int (k : Int), V.int (m : Int)]) := upd_same
    generalize upd H9 t1 (.tup [V.int (k : Int), V.int (m : Int)]) = H10 at *
    refine ⟨by show 2 ≤ sizeLine; decide, fun l1 hl1 => ?_⟩
    have s11 := same_new hl1 (.lst [.ref t0, .ref t1])
    have hl1' : (upd H10 l1 (.lst [.ref t0, .ref t1])) l1 = some (.lst [.ref t0, .ref t1]) := upd_same
    generalize upd H10 l1 (.lst [.ref t0, .ref t1]) = H11 at *
    obtain ⟨t, hat, ht⟩ := mkp_at n1 (s11 _ _ (s10 _ _ ht0')) (s11 _ _ ht1')
    refine ⟨_, rfl, l1, _, _, _, rfl, rfl, SqL.of hl1', hat, ?_⟩
    have s611 : Same H6 H11 := s7.trans (s8.trans (s9.trans (s10.trans s11)))
    have I11 := I6.same s611
    refine ⟨_, rfl, _, rfl, _, rfl, _, rfl, p, dx, wt, pt, al, u, v, r, _, _, _, prs, qs, rfl, I11.g, hu, hv, hr3, hpr, fg.choice ⟨fun z => absurd ⟨by omega, by omega⟩ z, fun k2 ek2 hk2 l12 H12 pt12 qs12 b12 g12 h12 => ?_⟩⟩
    obtain rfl : k = k2 := by omega
    obtain ⟨S12, L12⟩ := I11.game b12
    have hts12 := b12 _ _ (ne_of (s611 _ _ hts6) I11.g.o (by intro z; cases z)) (s611 _ _ hts6)
    have ht12 := b12 _ _ (ne_of ht I11.g.o (by intro z; cases z)) ht
    refine ⟨by show 1 ≤ sizeLine; decide, fun l13 hl13 => ?_⟩
    have s13 := same_new hl13 (.lst [.non])
    have hl13' : (upd H12 l13 (.lst [.non])) l13 = some (.lst [.non]) := upd_same
    generalize upd H12 l13 (.lst [.non]) = H13 at *
    refine ⟨_, _, .list [.none], .list [.none], rfl, .lst (SqL.of (s13 _ _ h12)) (.cons .non .nil), .lst (SqL.of hl13') (.cons .non .nil), ⟨by show 1 ≤ 100000; omega, fun x hx => by rw [List.mem_singleton.mp hx]; trivial⟩, fun b14 H14 s14 hb14 => ?_⟩
    obtain rfl : b14 = true := hb14.mpr rfl
    refine ⟨_, rfl, _, rfl, by show 1 ≤ sizeLine; decide, fun l15 hl15 => ?_⟩
    have s15 := same_new hl15 (.lst [.ref t])
    have hl15' : (upd H14 l15 (.lst [.ref t])) l15 = some (.lst [.ref t]) := upd_same
    generalize upd H14 l15 (.lst [.ref t]) = H15 at *
    have s1215 := s13.trans (s14.trans s15)
    refine ⟨pa, l15, ts.map V.ref, [.ref t], rfl, rfl, s1215 _ _ hts12, hl15', by rw [List.length_map, htl]; exact sz (by show prs.length + 1 ≤ 100000; omega), fun l16 hl16 => ?_⟩
    have s16 := same_new hl16 (.lst (ts.map V.ref ++ [.ref t]))
    have hl16' : (upd H15 l16 (.lst (ts.map V.ref ++ [.ref t]))) l16 = some (.lst (ts.map V.ref ++ [.ref t])) := upd_same
    generalize upd H15 l16 (.lst (ts.map V.ref ++ [.ref t])) = H16 at *
    refine ⟨by show 2 ≤ sizeLine; decide, fun l hl => ?_⟩
    have s17 := same_new hl (.lst [.bl true, .ref l16])
    have sT := s1215.trans (s16.trans s17)
    refine fin l _ pt12 qs12 (prs ++ [mkp n m k]) l16 ((But2.s s611).trans ((But2.r b12).trans (But2.s sT))) ⟨g12.mono sT, S12.same sT, ⟨(L12.mono sT).w, ⟨ts ++ [t], by rw [s17 _ _ hl16', List.map_append]; rfl, paired_snoc (Paired.mapP htq fun _ _ z => ?_) (sT _ _ ht12)⟩, inb_snoc I6.l.i hm2 n1 hk, hu, hv⟩, ?_⟩ (by rw [List.length_append]; show prs.length + 1 ≤ r; omega) upd_same
    · have z6 := s611 _ _ (s6 _ _ z)
      exact sT _ _ (b12 _ _ (ne_of z6 I11.g.o (by intro z; cases z)) z6)
    · obtain ⟨zs, hz⟩ := (S12.same s1215).lst
      exact Ne.symm (ne_of_none hz hl16)
end
end W8

set_option Elab.async false
set_option linter.all false
set_option maxRecDepth 100000
set_option maxHeartbeats 4000000
namespace W8
open PySem L2 NK GM
abbrev sRefusals : Stmt := top 50
theorem scRefusals : FnScope ["state", "letters", "one", "other", "sign", "lead", "rounds", "bad", "unknown"] ["state", "letters", "one", "other"] (defScope sRefusals) := ⟨rfl, rfl, rfl, by decide +kernel, rfl, by decide +kernel, by decide +kernel⟩
def spRefusals (K : PySem.W.Frag) : Sp := fun vs H Q _ => ∃ (a pp : Addr) (al u v : List Nat), vs = [.ref a, .str (S al), .str (S u), .str (S v)] ∧ AlphOk al ∧ (∀ c ∈ u, c ∈ al) ∧ (∀ c ∈ v, c ∈ al) ∧ u.length ≤ 60 ∧ v.length ≤ 60 ∧ StOk K H a pp ∧
  ∀ H', But a H H' → StOk K H' a pp → Q (.bl true) H'
theorem bad_at {ld t al : List Nat} {c i : Nat} (h : BadAt (ld ++ c :: t) al i) (h1 : ∀ x ∈ ld, x ∈ al) (hc : c ∉ al) : i = ld.length := by
  obtain ⟨x, hx, hn, hp⟩ := h
  rcases Nat.lt_trichotomy i ld.length with h | h | h
  · rw [List.getElem?_append_left h] at hx
    exact absurd (h1 x (List.mem_of_getElem? hx)) hn
  · exact h
  · refine absurd (hp c ?_) hc
    rw [List.take_append, List.mem_append]
    refine .inr ?_
    obtain ⟨k, hk⟩ : ∃ k, i - ld.length = k + 1 := ⟨i - ld.length - 1, by omega⟩
    rw [hk, List.take_succ_cons]
    exact List.mem_cons_self
theorem pick_round {x y j : Int} (hx : 0 ≤ x) (hy : 0 ≤ y) (j0 : 0 ≤ j) (j4 : j < 4) : ∃ rr : Int, atI [V.int (-1), .int 4, .int (5 + x), .int (-2 - y)] j = some (.int rr) ∧ ¬ (0 ≤ rr ∧ rr ≤ 3) := by
  obtain ⟨k, rfl⟩ : ∃ k : Nat, j = (k : Int) := ⟨j.toNat, by omega⟩
  rcases k with _ | _ | _ | _ | k
  · exact ⟨-1, rfl, by omega⟩
  · exact ⟨4, rfl, by omega⟩
  · exact ⟨5 + x, rfl, by omega⟩
  · exact ⟨-2 - y, rfl, by omega⟩
  · omega
theorem pick_bad {j : Int} (j0 : 0 ≤ j) (j6 : j < 6) : ∃ bd : List Nat, atI [V.str "", .str "ba", .str "aa", .str "abcd", .str "aB", .str "a1"] j = some (.str (S bd)) ∧ ¬ AlphOk bd ∧ bd.length ≤ 4 := by
  obtain ⟨k, rfl⟩ : ∃ k : Nat, j = (k : Int) := ⟨j.toNat, by omega⟩
  rcases k with _ | _ | _ | _ | _ | _ | k
  · exact ⟨[], rfl, fun h => by have := h.n1; simp at this, by decide⟩
  · exact ⟨[98, 97], rfl, fun h => by have := h.asc; simp at this, by decide⟩
  · exact ⟨[97, 97], rfl, fun h => by have := h.asc; simp at this, by decide⟩
  · exact ⟨[97, 98, 99, 100], rfl, fun h => by have := h.n3; simp at this, by decide⟩
  · exact ⟨[97, 66], rfl, fun h => by have := h.lo 66 (by simp); omega, by decide⟩
  · exact ⟨[97, 49], rfl, fun h => by have := h.lo 49 (by simp); omega, by decide⟩
  · omega
theorem eData3 (K : PySem.W.Frag) (a b c : Str) (ha : PyData.strOk a = true := by decide +kernel) (hb : PyData.strOk b = true := by decide +kernel) (hc : PyData.strOk c = true := by decide +kernel) : EData K [.str a, .str b, .str c] [.str a, .str b, .str c] :=
  ⟨fun _ => .cons (.str _) (.cons (.str _) (.cons (.str _) .nil)), ⟨by show 3 ≤ 100000; omega, fun x hx => by
    rcases List.mem_cons.mp hx with rfl | hx
    · trivial
    rcases List.mem_cons.mp hx with rfl | hx
    · trivial
    rw [List.mem_singleton.mp hx]; trivial⟩, by simp [SeqAt.shaped, PyData.canLay0, PyData.canLayAll0, ha, hb, hc, PyData.depth, PyData.depthAll], by simp [PyData.eqv, PyData.eqvAll]⟩
section
variable {P : Program} {w : World} {K : PySem.W.Frag} {mg : Str → Option Value} {base : Heap}
theorem ok_refusals {f : Addr} {fd : FuncData} (F : Fun K "_law_refusals" "_law_refusals" sRefusals f fd) (SS : SameT mg) (cd : Cal P w K mg base "_law_draw" 1 ["state", "many"] (spDraw K)) (cs : Cal P w K mg base "_law_same" 5 ["actual", "expected"] (spSame K 5))
    (cx : Cal P w K mg base "_law_stranger" 2 ["state", "letters"] (spStranger K)) (cw : Cal P w K mg base "_law_word" 2 ["state", "letters", "most"] (spWord K)) (cb : Cal P w K mg base "_law_begun" 6 ["letters", "one", "other", "rounds"] spBegun) :
    FnOk P w K mg base CX0 7 f fd ["state", "letters", "one", "other"] (spRefusals K) := by
  refine F.ok scRefusals (fun vs H Q E h => ?_) (fun cdv A outer s H vs Q E hr h => ?_)
  · obtain ⟨a, pp, al, u, v, rfl, _⟩ := h
    rfl
  obtain ⟨a, pp, al, u, v, rfl, hA, mu, mv, hu, hv, S0, q⟩ := h
  have n1 := hA.n1
  have n3 := hA.n3
  refine ⟨_, (pss_cons (ps_set (i := 4) scRefusals.nd rfl (Or.inl rfl) (pcall cx hr (pa_cons (pv 0) (pa_cons (pv 1) pa_nil))))
    (pss_cons (ps_set (i := 5) scRefusals.nd rfl (Or.inl rfl) (pcall cw hr (pa_cons (pv 0) (pa_cons (pv 1) (pa_cons pe_int pa_nil)))))
    (pss_cons (ps_set (i := 6) scRefusals.nd rfl (Or.inl rfl) (pixL (pe_lst (pa_cons (pe_un un_neg pe_int) (pa_cons pe_int (pa_cons (pe_op op_add pe_int (pcall cd hr (pa_cons (pv 0) (pa_cons pe_int pa_nil)))) (pa_cons (pe_op op_sub (pe_un un_neg pe_int) (pcall cd hr (pa_cons (pv 0) (pa_cons pe_int pa_nil)))) pa_nil))))) (pcall cd hr (pa_cons (pv 0) (pa_cons pe_int pa_nil)))))
    (pss_cons (ps_set (i := 7) scRefusals.nd rfl (Or.inl rfl) (pixL (pe_lst (pa_cons pe_str (pa_cons pe_str (pa_cons pe_str (pa_cons pe_str (pa_cons pe_str (pa_cons pe_str pa_nil))))))) (pcall cd hr (pa_cons (pv 0) (pa_cons pe_int pa_nil)))))
    (pss_cons (ps_if (pt_not (pt_val (pcall cs hr (pa_cons (pcall cb hr (pa_cons (pv 7) (pa_cons (pe_op op_add_str (pv 5) (pv 4)) (pa_cons (pv 4) (pa_cons (pv 6) pa_nil))))) (pa_cons (pe_lst (pa_cons pe_str (pa_cons pe_str (pa_cons pe_str pa_nil)))) pa_nil)))))
      pss_never
      pss_nil)
    (pss_cons (ps_set (i := 8) scRefusals.nd rfl (Or.inl rfl) (pe_lst (pa_cons pe_str (pa_cons pe_str (pa_cons pe_str pa_nil)))))
    (pss_cons (ps_if (pt_not (pt_val (pcall cs hr (pa_cons (pcall cb hr (pa_cons (pv 1) (pa_cons (pe_op op_add_str (pv 5) (pv 4)) (pa_cons (pe_op op_add_str (pe_op op_add_str (pv 4) (pv 5)) (pv 4)) (pa_cons (pv 6) pa_nil))))) (pa_cons (pe_op op_cat (pv 8) (pe_lst (pa_cons (pB1 call_len_str SS.len (pv 5)) pa_nil))) pa_nil)))))
      pss_never
      pss_nil)
    (pss_cons (ps_if (pt_not (pt_val (pcall cs hr (pa_cons (pcall cb hr (pa_cons (pv 1) (pa_cons (pv 2) (pa_cons (pe_op op_add_str (pe_op op_add_str (pv 5) (pv 4)) (pv 5)) (pa_cons (pv 6) pa_nil))))) (pa_cons (pe_op op_cat (pv 8) (pe_lst (pa_cons (pB1 call_len_str SS.len (pv 5)) pa_nil))) pa_nil)))))
      pss_never
      pss_nil)
    (pss_cons (ps_if (pt_not (pt_val (pcall cs hr (pa_cons (pcall cb hr (pa_cons (pv 1) (pa_cons (pv 2) (pa_cons (pv 3) (pa_cons (pv 6) pa_nil))))) (pa_cons (pe_lst (pa_cons pe_str (pa_cons pe_str (pa_cons pe_str (pa_cons pe_int pa_nil))))) pa_nil)))))
      pss_never
      pss_nil)
    (pss_one (ps_ret (pe_and (pe_cmpR (op_eqD hr.units) (pcall cb hr (pa_cons (pv 1) (pa_cons (pv 2) (pa_cons (pv 3) (pa_cons pe_int pa_nil))))) (pe_lst pa_nil) (nomark _)) (pe_one (pe_cmpR (op_eqD hr.units) (pcall cb hr (pa_cons (pv 1) (pa_cons (pv 2) (pa_cons (pv 3) (pa_cons pe_int pa_nil))))) (pe_lst pa_nil) (nomark _))))))))))))))), ?_⟩
  refine ⟨_, rfl, _, rfl, a, al, rfl, n3, pp, S0, fun c H1 hc B1 S1 => ?_⟩
  refine ⟨_, rfl, _, rfl, a, al, 2, rfl, List.length_pos_iff.mp n1, by omega, by omega, by omega, pp, S1, fun ld H2 hld mld B2 S2 => ?_⟩
  -- rounds
  refine ⟨_, rfl, _, rfl, a, 50, rfl, by omega, by omega, pp, S2, fun x H3 x0 x1 B3 S3 => ⟨_, _, rfl, rfl, _, rfl, _, rfl, a, 50, rfl, by omega, by omega, pp, S3, fun y H4 y0 y1 B4 S4 => ⟨_, _, rfl, rfl, ?_⟩⟩⟩
  refine ⟨by show 4 ≤ sizeLine; decide, fun l5 hl5 => ?_⟩
  have s5 := same_new hl5 (.lst [.int (-1), .int 4, .int (5 + x), .int (-2 - y)])
  have hl5' : (upd H4 l5 (.lst [.int (-1), .int 4, .int (5 + x), .int (-2 - y)])) l5 = some (.lst [.int (-1), .int 4, .int (5 + x), .int (-2 - y)]) := upd_same
  have n5 : l5 ≠ a := by
    obtain ⟨zs, hz⟩ := S4.lst
    exact Ne.symm (ne_of_none hz hl5)
  generalize upd H4 l5 (.lst [.int (-1), .int 4, .int (5 + x), .int (-2 - y)]) = H5 at *
  refine ⟨_, rfl, a, 4, rfl, by omega, by omega, pp, S4.same s5, fun j H6 j0 j1 B6 S6 => ?_⟩
  obtain ⟨rr, hat, hrr⟩ := pick_round x0 y0 j0 j1
  refine ⟨l5, _, _, _, rfl, rfl, SqL.of (B6 _ _ n5 hl5'), hat, ?_⟩
  have C6 : But a H H6 := B1.trans (B2.trans (B3.trans (B4.trans ((But.of s5).trans B6))))
  clear s5 B1 B2 B3 B4 B6 S1 S2 S3 S4
  -- bad
  refine ⟨by show 6 ≤ sizeLine; decide, fun l7 hl7 => ?_⟩
  have s7 := same_new hl7 (.lst [.str "", .str "ba", .str "aa", .str "abcd", .str "aB", .str "a1"])
  have hl7' : (upd H6 l7 (.lst [.str "", .str "ba", .str "aa", .str "abcd", .str "aB", .str "a1"])) l7 = some (.lst [.str "", .str "ba", .str "aa", .str "abcd", .str "aB", .str "a1"]) := upd_same
  have n7 : l7 ≠ a := by
    obtain ⟨zs, hz⟩ := S6.lst
    exact Ne.symm (ne_of_none hz hl7)
  generalize upd H6 l7 (.lst [.str "", .str "ba", .str "aa", .str "abcd", .str "aB", .str "a1"]) = H7 at *
  refine ⟨_, rfl, a, 6, rfl, by omega, by omega, pp, S6.same s7, fun i H8 i0 i1 B8 S8 => ?_⟩
  obtain ⟨bd, hbd, nbd, lbd⟩ := pick_bad i0 i1
  refine ⟨l7, _, _, _, rfl, rfl, SqL.of (B8 _ _ n7 hl7'), hbd, ?_⟩
  have C8 : But a H H8 := C6.trans ((But.of s7).trans B8)
  clear s7 B8 C6 S6
  -- the letters are refused
  refine ⟨_, rfl, _, rfl, _, rfl, S ld, S [c], rfl, rfl, by show ld.length + 1 ≤ sizeLine; exact sz (by omega), _, rfl, _, rfl, bd, ld ++ [c], [c], rr, by rw [← S_app]; rfl, by omega, by rw [List.length_append]; show ld.length + 1 ≤ 1000; omega, by show 1 ≤ 1000; decide, fun _ l9 H9 s9 h9 => ?_, fun z => absurd z nbd⟩
  refine ⟨by show 3 ≤ sizeLine; decide, fun l10 hl10 => ?_⟩
  have s10 := same_new hl10 (.lst [.str "ValueError", .str "ToolError", .str "LettersError"])
  have e3 := eData3 K "ValueError" "ToolError" "LettersError"
  refine ⟨_, _, _, _, rfl, .lst (SqL.of (s10 _ _ h9)) (e3.d _), .lst (SqL.of upd_same) (e3.d _), e3.ok, fun b11 H11 s11 hb11 => ?_⟩
  obtain rfl : b11 = true := hb11.mpr rfl
  refine ⟨_, rfl, ite2 (fun z => (nomatch z)) (fun _ => ?_)⟩
  have s811 : Same H8 H11 := s9.trans (s10.trans s11)
  -- unknown
  refine ⟨by show 3 ≤ sizeLine; decide, fun ul hul => ?_⟩
  have s12 := same_new hul (.lst [.str "ValueError", .str "ToolError", .str "LetterError"])
  have hul' : (upd H11 ul (.lst [.str "ValueError", .str "ToolError", .str "LetterError"])) ul = some (.lst [.str "ValueError", .str "ToolError", .str "LetterError"]) := upd_same
  generalize upd H11 ul (.lst [.str "ValueError", .str "ToolError", .str "LetterError"]) = H12 at *
  have eT4 := eData K "ValueError" "ToolError" "LetterError" (ld.length : Int)
  -- the first word is refused
  refine ⟨_, rfl, _, rfl, _, rfl, S ld, S [c], rfl, rfl, by show ld.length + 1 ≤ sizeLine; exact sz (by omega), _, rfl, _, rfl, S [c], S ld, rfl, rfl, by show 1 + ld.length ≤ sizeLine; exact sz (by omega), _, rfl, S [c] ++ S ld, S [c], rfl, rfl, by rw [S_app, S_len, List.length_append]; show 1 + ld.length + 1 ≤ sizeLine; exact sz (by omega), _, rfl, al, ld ++ [c], ([c] ++ ld) ++ [c], rr, by rw [← S_app, ← S_app, ← S_app]; rfl, by omega, by rw [List.length_append]; show ld.length + 1 ≤ 1000; omega, by rw [List.length_append, List.length_append]; show 1 + ld.length + 1 ≤ 1000; omega, fun z => absurd hA z, fun _ => ⟨fun i hi l13 H13 s13 h13 => ?_, fun z => absurd (z c (by simp)) hc⟩⟩
  obtain rfl := bad_at hi mld hc
  refine ⟨_, rfl, _, rfl, _, rfl, by rw [S_len]; exact sz (by omega), by show 1 ≤ sizeLine; decide, fun l14 hl14 => ?_⟩
  have s14 := same_new hl14 (.lst [.int ((S ld).length : Int)])
  refine ⟨ul, l14, _, _, rfl, rfl, s14 _ _ (s13 _ _ hul'), upd_same, by show 4 ≤ sizeLine; decide, fun l15 hl15 => ?_⟩
  have s15 := same_new hl15 (.lst ([.str "ValueError", .str "ToolError", .str "LetterError"] ++ [.int ((S ld).length : Int)]))
  refine ⟨_, _, _, _, rfl, .lst (SqL.of ((s14.trans s15) _ _ h13)) (eT4.d _), .lst (SqL.of upd_same) (eT4.d _), eT4.ok, fun b16 H16 s16 hb16 => ?_⟩
  obtain rfl : b16 = true := hb16.mpr rfl
  refine ⟨_, rfl, ite2 (fun z => (nomatch z)) (fun _ => ?_)⟩
  have s1216 : Same H12 H16 := s13.trans (s14.trans (s15.trans s16))
  clear s13 s14 s15 s16 h13
  -- the second word is refused
  refine ⟨_, rfl, _, rfl, _, rfl, _, rfl, S ld, S [c], rfl, rfl, by show ld.length + 1 ≤ sizeLine; exact sz (by omega), _, rfl, S ld ++ S [c], S ld, rfl, rfl, by rw [S_app, S_len, List.length_append]; show ld.length + 1 + ld.length ≤ sizeLine; exact sz (by omega), _, rfl, al, u, (ld ++ [c]) ++ ld, rr, by rw [← S_app, ← S_app]; rfl, by omega, by omega, by rw [List.length_append, List.length_append]; show ld.length + 1 + ld.length ≤ 1000; omega, fun z => absurd hA z, fun _ => ⟨fun i hi => absurd hi fun ⟨x, h1, h2, _⟩ => h2 (mu x (List.mem_of_getElem? h1)), fun _ => ⟨fun i hi l17 H17 s17 h17 => ?_, fun z => absurd (z c (by simp)) hc⟩⟩⟩
  rw [List.append_assoc] at hi
  obtain rfl := bad_at hi mld hc
  refine ⟨_, rfl, _, rfl, _, rfl, by rw [S_len]; exact sz (by omega), by show 1 ≤ sizeLine; decide, fun l18 hl18 => ?_⟩
  have s18 := same_new hl18 (.lst [.int ((S ld).length : Int)])
  refine ⟨ul, l18, _, _, rfl, rfl, s18 _ _ (s17 _ _ (s1216 _ _ hul')), upd_same, by show 4 ≤ sizeLine; decide, fun l19 hl19 => ?_⟩
  have s19 := same_new hl19 (.lst ([.str "ValueError", .str "ToolError", .str "LetterError"] ++ [.int ((S ld).length : Int)]))
  refine ⟨_, _, _, _, rfl, .lst (SqL.of ((s18.trans s19) _ _ h17)) (eT4.d _), .lst (SqL.of upd_same) (eT4.d _), eT4.ok, fun b20 H20 s20 hb20 => ?_⟩
  obtain rfl : b20 = true := hb20.mpr rfl
  refine ⟨_, rfl, ite2 (fun z => (nomatch z)) (fun _ => ?_)⟩
  have s1620 : Same H16 H20 := s17.trans (s18.trans (s19.trans s20))
  clear s17 s18 s19 s20 h17
  -- the rounds are refused
  have nb : ∀ {z : List Nat}, (∀ c ∈ z, c ∈ al) → ∀ i, BadAt z al i → ∀ {X : Prop}, X := fun h i ⟨x, h1, h2, _⟩ => absurd (h x (List.mem_of_getElem? h1)) h2
  refine ⟨_, rfl, _, rfl, _, rfl, _, rfl, al, u, v, rr, rfl, by omega, by omega, by omega, fun z => absurd hA z, fun _ => ⟨fun i hi => nb mu i hi, fun _ => ⟨fun i hi => nb mv i hi, fun _ => ⟨fun _ l21 H21 s21 h21 => ?_, fun z1 z2 => absurd ⟨z1, z2⟩ hrr⟩⟩⟩⟩
  refine ⟨by show 4 ≤ sizeLine; decide, fun l22 hl22 => ?_⟩
  have s22 := same_new hl22 (.lst ([.str "ValueError", .str "ToolError", .str "LimitError"] ++ [.int 3]))
  refine ⟨_, _, _, _, rfl, .lst (SqL.of (s22 _ _ h21)) ((eData K "ValueError" "ToolError" "LimitError" 3).d _), .lst (SqL.of upd_same) ((eData K "ValueError" "ToolError" "LimitError" 3).d _), (eData K "ValueError" "ToolError" "LimitError" 3).ok, fun b23 H23 s23 hb23 => ?_⟩
  obtain rfl : b23 = true := hb23.mpr rfl
  refine ⟨_, rfl, ite2 (fun z => (nomatch z)) (fun _ => ?_)⟩
  have s2023 : Same H20 H23 := s21.trans (s22.trans s23)
  clear s21 s22 s23 h21
  -- none is refused
  refine ⟨_, rfl, _, rfl, _, rfl, al, u, v, 0, rfl, by omega, by omega, by omega, fun z => absurd hA z, fun _ => ⟨fun i hi => nb mu i hi, fun _ => ⟨fun i hi => nb mv i hi, fun _ => ⟨fun z => absurd ⟨by omega, by omega⟩ z, fun _ _ l24 H24 s24 h24 => ?_⟩⟩⟩⟩
  refine ⟨Nat.zero_le _, fun l25 hl25 => ?_⟩
  have s25 := same_new hl25 (.lst [])
  refine ⟨.list [], .list [], .lst (SqL.of (s25 _ _ h24)) .nil, .lst (SqL.of upd_same) .nil, rfl, rfl, true, rfl, ?_⟩
  refine ite2 (fun _ => ?_) (fun z => absurd rfl z)
  refine ⟨_, rfl, _, rfl, _, rfl, al, u, v, 3, rfl, by omega, by omega, by omega, fun z => absurd hA z, fun _ => ⟨fun i hi => nb mu i hi, fun _ => ⟨fun i hi => nb mv i hi, fun _ => ⟨fun z => absurd ⟨by omega, by omega⟩ z, fun _ _ l26 H26 s26 h26 => ?_⟩⟩⟩⟩
  refine ⟨Nat.zero_le _, fun l27 hl27 => ?_⟩
  have s27 := same_new hl27 (.lst [])
  refine ⟨.list [], .list [], .lst (SqL.of (s27 _ _ h26)) .nil, .lst (SqL.of upd_same) .nil, rfl, rfl, ?_⟩
  have sA : Same H8 _ := s811.trans (s12.trans (s1216.trans (s1620.trans (s2023.trans (s24.trans (s25.trans (s26.trans s27)))))))
  exact q _ (C8.same sA) (S8.same sA)
end
end W8

set_option Elab.async false
set_option linter.all false
set_option maxRecDepth 100000
set_option maxHeartbeats 4000000
namespace W8
open PySem L2 NK GM
abbrev sLenG : Stmt := inClass (top 29) 2
theorem scLenG : FnScope ["self"] ["self"] (defScope sLenG) := ⟨rfl, rfl, rfl, by decide +kernel, rfl, by decide +kernel, by decide +kernel⟩
abbrev sNew : Stmt := top 31
theorem scNew : FnScope ["script"] ["script"] (defScope sNew) := ⟨rfl, rfl, rfl, by decide +kernel, rfl, by decide +kernel, by decide +kernel⟩
def spNew (K : PySem.W.Frag) : Sp := fun vs H Q _ => ∃ (a : Addr) (ns : List Int), vs = [.ref a] ∧ SqL K H a (ns.map V.int) ∧ ns.length ≤ 63 ∧ (∀ z ∈ ns, Builtin.Int.intBits z ≤ 1048576) ∧ ∀ b p H', Same H H' → StOk K H' b p → Q (.ref b) H'
abbrev sLaw : Stmt := top 51
theorem scLaw : FnScope ["script", "state", "letters", "one", "other", "rounds", "words", "game", "twin", "pairs", "turn", "told"] ["script"] (defScope sLaw) := ⟨rfl, rfl, rfl, by decide +kernel, rfl, by decide +kernel, by decide +kernel⟩
def spLaw (K : PySem.W.Frag) : Sp := fun vs H Q _ => ∃ (a : Addr) (ns : List Int), vs = [.ref a] ∧ SqL K H a (ns.map V.int) ∧ ns.length ≤ 63 ∧ (∀ z ∈ ns, Builtin.Int.intBits z ≤ 1048576) ∧ ∀ H', Q (.bl true) H'
theorem Alph.ok2 {al : List Nat} (h : Alph al (8 * al.length - 1)) (n3 : al.length ≤ 3) : AlphOk al := by
  refine ⟨List.length_pos_iff.mpr h.ne, n3, h.asc, fun c hc => ?_⟩
  have := h.lo c hc
  omega
theorem GameSt.but2 {H H' : Hp} {q C dx wt pt a p : Addr} {al u v : List Nat} {r : Nat} {prs : Prs} {qs : List Addr} {ys : List V} {C' dx' : Addr} {fs : List (Str × V)} (g : GameSt H q C dx wt pt al u v r prs qs) (b : But2 a p H H') (ha : H a = some (.lst ys)) (hp : H p = some (.ins C' dx' fs)) (n : q ≠ p) : GameSt H' q C dx wt pt al u v r prs qs :=
  ⟨b _ _ (ne_of g.o ha (by intro z; cases z)) n g.o, b _ _ (ne_of g.w ha (by intro z; cases z)) (ne_of g.w hp (by intro z; cases z)) g.w, b _ _ (ne_of g.t ha (by intro z; cases z)) (ne_of g.t hp (by intro z; cases z)) g.t,
    Paired.mapP g.q fun _ _ z => b _ _ (ne_of z ha (by intro z; cases z)) (ne_of z hp (by intro z; cases z)) z⟩
theorem DI.twin {K : PySem.W.Frag} {H H' : Hp} {p C dx wt pt : Addr} {al u v : List Nat} {r : Nat} {prs : Prs} {qs : List Addr} {a pp W pa q C' dx' : Addr} {fs : List (Str × V)} (h : DI K H p C dx wt pt al u v r prs qs a pp W pa) (b : But q H H') (hq : H q = some (.ins C' dx' fs)) (n : p ≠ q) : DI K H' p C dx wt pt al u v r prs qs a pp W pa := by
  obtain ⟨xs, hx⟩ := h.s.lst
  obtain ⟨ys, hy⟩ := h.s.lstP
  exact ⟨⟨b _ _ n h.g.o, b _ _ (ne_of h.g.w hq (by intro z; cases z)) h.g.w, b _ _ (ne_of h.g.t hq (by intro z; cases z)) h.g.t, Paired.mapP h.g.q fun _ _ z => b _ _ (ne_of z hq (by intro z; cases z)) z⟩,
    h.s.but b (ne_of hx hq (by intro z; cases z)) (ne_of hy hq (by intro z; cases z)), ⟨b.insT hq h.l.w, h.l.p.but b hq, h.l.i, h.l.u60, h.l.v60⟩, h.n⟩
section
variable {P : Program} {w : World} {K : PySem.W.Frag} {mg : Str → Option Value} {base : Heap}
theorem ok_lenG {f C : Addr} {fd : FuncData} (F : Fun K "__len__" "Game.__len__" sLenG f fd) (T : GameT K mg C) (tl : mg "len" = none) : FnOk P w K mg base CX0 1 f fd ["self"] (spLenG C) := by
  refine F.ok scLenG (fun vs H Q E h => ?_) (fun cdv A outer s H vs Q E hr h => ?_)
  · obtain ⟨p, dx, wt, pt, al, u, v, r, prs, qs, rfl, _⟩ := h
    rfl
  obtain ⟨p, dx, wt, pt, al, u, v, r, prs, qs, rfl, G, q⟩ := h
  have hql : qs.length = prs.length := Paired.length G.q
  refine ⟨_, (pss_one (ps_ret (pB1 call_len_seq tl (pe_fld (pv 0) rfl)))), ?_⟩
  refine ⟨_, rfl, p, C, dx, _, _, rfl, G.o, T.cl, T.nP, gf_pairs _ _ _ _, pt, _, rfl, .inr (SqT.of G.t), ?_⟩
  rw [List.length_map, hql]
  exact q
theorem ok_new {f : Addr} {fd : FuncData} (F : Fun K "_law_new" "_law_new" sNew f fd) (tl : mg "list" = none) : FnOk P w K mg base CX0 1 f fd ["script"] (spNew K) := by
  refine F.ok scNew (fun vs H Q E h => ?_) (fun cdv A outer s H vs Q E hr h => ?_)
  · obtain ⟨a, ns, rfl, _⟩ := h
    rfl
  obtain ⟨a, ns, rfl, hS, hn, hb, q⟩ := h
  refine ⟨_, (pss_one (ps_ret (pe_lst (pa_cons (pT1 call_list_of tl (pv 0)) (pa_cons pe_int (pa_cons pe_int (pa_cons pe_int (pa_cons pe_int pa_nil)))))))), ?_⟩
  refine ⟨_, rfl, _, _, rfl, .inl hS, fun p hp => ?_⟩
  refine ⟨by show 5 ≤ sizeLine; decide, fun b hb2 => ?_⟩
  have s1 := same_new hp (.lst (ns.map V.int))
  have s2 := same_new hb2 (.lst [.ref p, .int 0, .int 0, .int 0, .int 0])
  have npb : p ≠ b := ne_of_none upd_same hb2
  exact q b p _ (s1.trans s2) ⟨ns, 0, 0, 0, 0, upd_same, s2 _ _ upd_same, npb, hb, hn, by omega, by omega, .inr (by omega)⟩
structure LawC (P : Program) (w : World) (K : PySem.W.Frag) (mg : Str → Option Value) (base : Heap) (C : Addr) : Prop where
  T : GameT K mg C
  S : SameT mg
  min : mg "min" = none
  rd : ∃ mc, ClX.CRead K C mc ∧ ∃ u, ClX.CVal K C mc "MOST_ROUNDS" (.int 3) u
  new : Cal P w K mg base "_law_new" 1 ["script"] (spNew K)
  letters : Cal P w K mg base "_law_letters" 2 ["state", "most"] (spLetters K)
  draw : Cal P w K mg base "_law_draw" 1 ["state", "many"] (spDraw K)
  word : Cal P w K mg base "_law_word" 2 ["state", "letters", "most"] (spWord K)
  same : Cal P w K mg base "_law_same" 5 ["actual", "expected"] (spSame K 5)
  stands : Cal P w K mg base "_law_stands" 8 ["game", "words", "pairs", "rounds"] (spStands K C)
  deed : Cal P w K mg base "_law_deed" 9 ["state", "game", "words", "pairs", "rounds"] (spDeed K C)
  played : Cal P w K mg base "_law_played" 6 ["game", "side", "place", "answer"] (spPlayed C)
  refusals : Cal P w K mg base "_law_refusals" 7 ["state", "letters", "one", "other"] (spRefusals K)
theorem cutw {z al : List Nat} (k : Nat) (h : ∀ c ∈ z, c ∈ al) : ∀ c ∈ z.take k, c ∈ al := fun c hc => h c (List.mem_of_mem_take hc)
theorem ok_law {f C fI : Addr} {fd fdI : FuncData} (F : Fun K "law" "law" sLaw f fd) (c : LawC P w K mg base C) (M : Mk K C fI) (GI : FnOk P w K mg base CX0 2 fI fdI ["self", "letters", "one", "other", "rounds"] (spInit C)) (bI : Binds K fdI ["self", "letters", "one", "other", "rounds"] []) :
    FnOk P w K mg base CX0 10 f fd ["script"] (spLaw K) := by
  refine F.ok scLaw (fun vs H Q E h => ?_) (fun cdv A outer s H vs Q E hr h => ?_)
  · obtain ⟨a, ns, rfl, _⟩ := h
    rfl
  obtain ⟨a0, ns, rfl, hS, hn, hb, q⟩ := h
  have SS := c.S
  have T := c.T
  obtain ⟨mc, hrd, uv, hcv⟩ := c.rd
  refine ⟨_, (pss_cons (ps_set (i := 1) scLaw.nd rfl (Or.inl rfl) (pcall c.new hr (pa_cons (pv 0) pa_nil)))
    (pss_cons (ps_set (i := 2) scLaw.nd rfl (Or.inl rfl) (pcall c.letters hr (pa_cons (pv 1) (pa_cons pe_int pa_nil))))
    (pss_cons (ps_set (i := 3) scLaw.nd rfl (Or.inl rfl) (pcall c.word hr (pa_cons (pv 1) (pa_cons (pv 2) (pa_cons pe_int pa_nil)))))
    (pss_cons (ps_set (i := 4) scLaw.nd rfl (Or.inl rfl) (pcall c.word hr (pa_cons (pv 1) (pa_cons (pv 2) (pa_cons pe_int pa_nil)))))
    (pss_cons (ps_set (i := 5) scLaw.nd rfl (Or.inl rfl) (pcall c.draw hr (pa_cons (pv 1) (pa_cons pe_int pa_nil))))
    (C8.pss_cut (ps_if (pt_cmpR op_eq (pcall c.draw hr (pa_cons (pv 1) (pa_cons pe_int pa_nil))) pe_int (nomark _))
      (pss_cons (ps_set (i := 3) scLaw.nd rfl (Or.inl rfl) (pe_slice sl_str (pe_op op_mulS (pe_op op_add_str (pixS (pv 2) pe_int) (pv 3)) pe_int) po_none (po_some (pe_op op_sub pe_int (pcall c.draw hr (pa_cons (pv 1) (pa_cons pe_int pa_nil)))))))
      (pss_cons (ps_set (i := 4) scLaw.nd rfl (Or.inl rfl) (pe_slice sl_str (pe_op op_mulS (pe_op op_add_str (pv 4) (pixS (pv 2) pe_int)) pe_int) po_none (po_some (pe_op op_sub pe_int (pcall c.draw hr (pa_cons (pv 1) (pa_cons pe_int pa_nil)))))))
      (pss_one (ps_set (i := 5) scLaw.nd rfl (Or.inl rfl) (pe_callB (call_min2 rfl) (by rfl) c.min (by decide +kernel) (pa_cons (pv 5) (pa_cons pe_int pa_nil)))))))
      pss_nil)
    (C8.pss_cut (ps_if (pt_cmpR op_eq (pv 5) pe_int (nomark _))
      (pss_cons (ps_set (i := 3) scLaw.nd rfl (Or.inl rfl) (pe_slice sl_str (pv 3) po_none (po_some pe_int)))
      (pss_one (ps_set (i := 4) scLaw.nd rfl (Or.inl rfl) (pe_slice sl_str (pv 4) po_none (po_some pe_int)))))
      pss_nil)
    (pss_cons (ps_set (i := 6) scLaw.nd rfl (Or.inl rfl) (pe_tup (pa_cons (pv 3) (pa_cons (pv 4) pa_nil))))
    (pss_cons (ps_set (i := 7) scLaw.nd rfl (Or.inl rfl) (pe_make M GI (hr.mono (by decide)) (by rfl) T.mgC bI .nil pass0 (pa_cons (pv 2) (pa_cons (pv 3) (pa_cons (pv 4) (pa_cons (pv 5) pa_nil))))))
    (pss_cons (ps_set (i := 8) scLaw.nd rfl (Or.inl rfl) (pe_make M GI (hr.mono (by decide)) (by rfl) T.mgC bI .nil pass0 (pa_cons (pv 2) (pa_cons (pv 4) (pa_cons (pv 3) (pa_cons (pv 5) pa_nil))))))
    (pss_cons (ps_if (pt_not (pt_val (pcall c.same hr (pa_cons (pe_lst (pa_cons (pe_fld (pv 7) rfl) (pa_cons (ClX.pe_cval (pe_glob (v := .ref C) rfl T.mgC rfl)) pa_nil))) (pa_cons (pe_lst (pa_cons (pv 2) (pa_cons pe_int pa_nil))) pa_nil)))))
      pss_never
      pss_nil)
    (pss_cons (ps_set (i := 9) scLaw.nd rfl (Or.inl rfl) (pe_lst pa_nil))
    (pss_cons (ps_if (pt_not (pt_val (pcall c.stands hr (pa_cons (pv 7) (pa_cons (pv 6) (pa_cons (pv 9) (pa_cons (pv 5) pa_nil)))))))
      pss_never
      pss_nil)
    (pss_cons (ps_for PassesOwn.never rfl (pi_range1 (by rfl) SS.range (pa_cons (pcall c.draw hr (pa_cons (pv 1) (pa_cons pe_int pa_nil))) pa_nil)) (pg_name (i := 10) scLaw.nd rfl (Or.inl rfl))
      (pss_cons (ps_set (i := 11) scLaw.nd rfl (Or.inl rfl) (pcall c.deed hr (pa_cons (pv 1) (pa_cons (pv 7) (pa_cons (pv 6) (pa_cons (pv 9) (pa_cons (pv 5) pa_nil)))))))
      (pss_cons (ps_set (i := 9) scLaw.nd rfl (Or.inl rfl) (pixL (pv 11) pe_int))
      (pss_one (ps_if (PW.pt (pw_or (pt_not (pt_val (pixL (pv 11) pe_int))) (pw_or1 (pt_not (pt_val (pcall c.stands hr (pa_cons (pv 7) (pa_cons (pv 6) (pa_cons (pv 9) (pa_cons (pv 5) pa_nil))))))))))
        pss_never
        pss_nil)))))
    (pss_cons (ps_if (pt_not (pt_val (pcall c.stands hr (pa_cons (pv 8) (pa_cons (pe_tup (pa_cons (pv 4) (pa_cons (pv 3) pa_nil))) (pa_cons (pe_lst pa_nil) (pa_cons (pv 5) pa_nil)))))))
      pss_never
      pss_nil)
    (C8.pss_cut (ps_if (PW.pt (pw_and (pt_cmpR op_gt (pv 5) pe_int (nomark _)) (pw_and1 (pt_not (pt_val (pcall c.same hr (pa_cons (pcall c.played hr (pa_cons (pv 8) (pa_cons pe_int (pa_cons pe_int (pa_cons (pB1 call_len_str SS.len (pv 3)) pa_nil))))) (pa_cons (pe_lst (pa_cons pe_non pa_nil)) pa_nil))))))))
      pss_never
      pss_nil)
    (pss_cons (ps_if (pt_not (pt_val (pcall c.refusals hr (pa_cons (pv 1) (pa_cons (pv 2) (pa_cons (pv 3) (pa_cons (pv 4) pa_nil)))))))
      pss_never
      pss_nil)
    (pss_one (ps_ret (pcall c.stands hr (pa_cons (pv 7) (pa_cons (pv 6) (pa_cons (pv 9) (pa_cons (pv 5) pa_nil)))))))))))))))))))))))), ?_⟩
  refine ⟨_, rfl, a0, ns, rfl, hS, hn, hb, fun a pp H1 s1 S1 => ?_⟩
  refine ⟨_, rfl, a, 3, rfl, by omega, by omega, _, S1, fun al H2 hal la B2 S2 => ?_⟩
  have hA := hal.ok2 (by omega)
  have n1 := hA.n1
  have n3 := hA.n3
  refine ⟨_, rfl, _, rfl, a, al, 4, rfl, hal.ne, by omega, by omega, by omega, _, S2, fun u0 H3 hu0 mu0 B3 S3 => ?_⟩
  refine ⟨_, rfl, _, rfl, a, al, 4, rfl, hal.ne, by omega, by omega, by omega, _, S3, fun v0 H4 hv0 mv0 B4 S4 => ?_⟩
  refine ⟨_, rfl, a, 4, rfl, by omega, by omega, _, S4, fun rr H5 r0 r4 B5 S5 => ?_⟩
  obtain ⟨r00, rfl⟩ : ∃ r : Nat, rr = (r : Int) := ⟨rr.toNat, by omega⟩
  obtain ⟨c0, hc0, _, hat0⟩ := at_S (w := al) (i := 0) (by omega) (by omega)
  have one_mem : ∀ x ∈ [c0], x ∈ al := fun x hx => by rw [List.mem_singleton.mp hx]; exact hc0
  refine ⟨fun σ' H' => ∃ (u v : List Nat) (r : Nat), σ' = [some (.ref a0), some (.ref a), some (.str (S al)), some (.str (S u)), some (.str (S v)), some (.int (r : Int)), none, none, none, none, none, none] ∧ StOk K H' a pp ∧ (∀ c ∈ u, c ∈ al) ∧ (∀ c ∈ v, c ∈ al) ∧ u.length ≤ 20 ∧ v.length ≤ 20 ∧ r ≤ 3, ?_, ?_⟩
  · refine ⟨_, rfl, a, 8, rfl, by omega, by omega, _, S5, fun d H6 d0 d1 B6 S6 => ⟨rfl, _, rfl, ?_⟩⟩
    refine ite2 (fun _ => ?_) (fun _ => ⟨u0, v0, r00, rfl, S6, mu0, mv0, by omega, by omega, by omega⟩)
    refine ⟨_, rfl, S al, 0, c0, rfl, rfl, by rw [S_len]; exact sz (by omega), hat0, _, rfl, S [c0], S u0, rfl, rfl, by show 1 + u0.length ≤ sizeLine; exact sz (by omega), ?_⟩
    rw [S_app]
    refine ⟨S ([c0] ++ u0), ((20 : Nat) : Int), rfl, rfl, by rw [S_len, List.length_append]; show 1 + u0.length ≤ 1000; omega, by omega, by omega, ?_⟩
    rw [mul_S]
    refine ⟨_, rfl, a, 3, rfl, by omega, by omega, _, S6, fun x H7 x0 x1 B7 S7 => ⟨_, _, rfl, rfl, _, rfl, S (rep ([c0] ++ u0) 20), rfl, ?_, ?_⟩⟩
    · rw [S_len, rep_length, List.length_append]
      refine sz ?_
      show 20 * (1 + u0.length) ≤ 100000
      omega
    obtain ⟨k, hk⟩ : ∃ k : Nat, 20 - x = (k : Int) := ⟨(20 - x).toNat, by omega⟩
    rw [hk, cut_to]
    refine ⟨_, rfl, _, rfl, S al, 0, c0, rfl, rfl, by rw [S_len]; exact sz (by omega), hat0, S v0, S [c0], rfl, rfl, by show v0.length + 1 ≤ sizeLine; exact sz (by omega), ?_⟩
    rw [S_app]
    refine ⟨S (v0 ++ [c0]), ((20 : Nat) : Int), rfl, rfl, by rw [S_len, List.length_append]; show v0.length + 1 ≤ 1000; omega, by omega, by omega, ?_⟩
    rw [mul_S]
    refine ⟨_, rfl, a, 3, rfl, by omega, by omega, _, S7, fun y H8 y0 y1 B8 S8 => ⟨_, _, rfl, rfl, _, rfl, S (rep (v0 ++ [c0]) 20), rfl, ?_, ?_⟩⟩
    · rw [S_len, rep_length, List.length_append]
      refine sz ?_
      show 20 * (v0.length + 1) ≤ 100000
      omega
    obtain ⟨k2, hk2⟩ : ∃ k : Nat, 20 - y = (k : Int) := ⟨(20 - y).toNat, by omega⟩
    rw [hk2, cut_to]
    refine ⟨_, rfl, _, _, rfl, ?_⟩
    refine ⟨(rep ([c0] ++ u0) 20).take k, (rep (v0 ++ [c0]) 20).take k2, if r00 ≤ 1 then r00 else 1, ?_, S8, cutw k fun z hz => alphOk_mem one_mem mu0 z (rep_mem hz), cutw k2 fun z hz => alphOk_mem mv0 one_mem z (rep_mem hz), ?_, ?_, ?_⟩
    · have e : (if (1 : Int) < (r00 : Int) then (1 : Int) else (r00 : Int)) = ((if r00 ≤ 1 then r00 else 1 : Nat) : Int) := by
        by_cases h : r00 ≤ 1
        · rw [if_pos h, if_neg (by omega)]
        · rw [if_neg h, if_pos (by omega)]; rfl
      rw [← e]
      rfl
    · rw [List.length_take]; omega
    · rw [List.length_take]; omega
    · by_cases h : r00 ≤ 1
      · rw [if_pos h]; omega
      · rw [if_neg h]; omega
  rintro σ6 H6 ⟨u1, v1, r, rfl, S6, mu1, mv1, hu1, hv1, hr3⟩
  clear B5 S5 B4 S4 B3 S3 B2 S2 S1 r4 hat0
  refine ⟨fun σ' H' => ∃ (u v : List Nat), σ' = [some (.ref a0), some (.ref a), some (.str (S al)), some (.str (S u)), some (.str (S v)), some (.int (r : Int)), none, none, none, none, none, none] ∧ StOk K H' a pp ∧ (∀ c ∈ u, c ∈ al) ∧ (∀ c ∈ v, c ∈ al) ∧ u.length ≤ 20 ∧ v.length ≤ 20, ?_, ?_⟩
  · refine ⟨_, rfl, rfl, _, rfl, ?_⟩
    refine ite2 (fun _ => ?_) (fun _ => ⟨u1, v1, rfl, S6, mu1, mv1, hu1, hv1⟩)
    refine ⟨_, rfl, _, rfl, S u1, rfl, by rw [S_len]; exact sz (by omega), ?_⟩
    rw [show (3 : Int) = ((3 : Nat) : Int) from rfl, cut_to]
    refine ⟨_, rfl, _, rfl, S v1, rfl, by rw [S_len]; exact sz (by omega), ?_⟩
    rw [cut_to]
    exact ⟨_, _, rfl, S6, cutw 3 mu1, cutw 3 mv1, by rw [List.length_take]; omega, by rw [List.length_take]; omega⟩
  rintro σ7 H7 ⟨u, v, rfl, S7, mu, mv, hu, hv⟩
  clear S6 mu1 mv1 hu1 hv1
  -- the games
  refine ⟨_, rfl, _, rfl, by show 2 ≤ sizeLine; decide, fun W hW => ?_⟩
  have s8 := same_new hW (.tup [.str (S u), .str (S v)])
  have hW8 : (upd H7 W (.tup [.str (S u), .str (S v)])) W = some (.tup [.str (S u), .str (S v)]) := upd_same
  generalize upd H7 W (.tup [.str (S u), .str (S v)]) = H8 at *
  have S8 := S7.same s8
  refine ⟨_, rfl, _, rfl, _, rfl, _, rfl, fun p dx np ndx nex => ?_⟩
  refine ⟨p, dx, al, u, v, r, rfl, upd_same, hA, mu, mv, by omega, by omega, fun H9 wt pt b9 h1 h2 h3 => ⟨rfl, ?_⟩⟩
  have s9 : Same H8 H9 := fun b o e => b9 b o (ne_of_none e np) (by rw [upd_ne (ne_of_none e np), upd_ne (ne_of_none e ndx)]; exact e)
  have G9 : GameSt H9 p C dx wt pt al u v r [] [] := ⟨h1, h2, h3, .nil⟩
  refine ⟨_, rfl, _, rfl, _, rfl, _, rfl, fun p2 dx2 np2 ndx2 nex2 => ?_⟩
  refine ⟨p2, dx2, al, v, u, r, rfl, upd_same, hA, mv, mu, by omega, by omega, fun H10 wt2 pt2 b10 g1 g2 g3 => ⟨rfl, ?_⟩⟩
  have s10 : Same H9 H10 := fun b o e => b10 b o (ne_of_none e np2) (by rw [upd_ne (ne_of_none e np2), upd_ne (ne_of_none e ndx2)]; exact e)
  have G10 := G9.mono s10
  have X10 : GameSt H10 p2 C dx2 wt2 pt2 al v u r [] [] := ⟨g1, g2, g3, .nil⟩
  have npp : p ≠ p2 := ne_of_none h1 np2
  have S10 := S8.same (s9.trans s10)
  have hW10 := s10 _ _ (s9 _ _ hW8)
  clear S8 S7 b9 b10 h1 h2 h3 g1 g2 g3 G9 s9 s10 s8
  refine ⟨_, rfl, p, C, dx, _, _, rfl, G10.o, T.cl, T.nL, gf_letters _ _ _ _, C, mc, .int 3, uv, rfl, hrd, hcv, by show 2 ≤ sizeLine; decide, fun l1 hl1 => ?_⟩
  have s11 := same_new hl1 (.lst [.str (S al), .int 3])
  have hl1' : (upd H10 l1 (.lst [.str (S al), .int 3])) l1 = some (.lst [.str (S al), .int 3]) := upd_same
  generalize upd H10 l1 (.lst [.str (S al), .int 3]) = H11 at *
  refine ⟨_, rfl, by show 2 ≤ sizeLine; decide, fun l2 hl2 => ?_⟩
  have s12 := same_new hl2 (.lst [.str (S al), .int 3])
  refine ⟨_, _, .list [.str (S al), .int 3], .list [.str (S al), .int 3], rfl, .lst (SqL.of (s12 _ _ hl1')) (.cons (.str _) (.cons (.int _) .nil)), .lst (SqL.of upd_same) (.cons (.str _) (.cons (.int _) .nil)), ⟨by show 2 ≤ 100000; omega, fun x hx => by
    rcases List.mem_cons.mp hx with rfl | hx
    · trivial
    · rw [List.mem_singleton.mp hx]; trivial⟩, fun b13 H13 s13 hb13 => ?_⟩
  obtain rfl : b13 = true := hb13.mpr rfl
  refine ⟨_, rfl, ite2 (fun z => (nomatch z)) (fun _ => ?_)⟩
  refine ⟨Nat.zero_le _, fun pa hpa => ?_⟩
  have s14 := same_new hpa (.lst [])
  have sT := s11.trans (s12.trans (s13.trans s14))
  have npa : pa ≠ a := by
    obtain ⟨zs, hz⟩ := (S10.same (s11.trans (s12.trans s13))).lst
    exact Ne.symm (ne_of_none hz hpa)
  have I14 : DI K _ p C dx wt pt al u v r [] [] a pp W pa := ⟨G10.mono sT, S10.same sT, ⟨SqT.of (sT _ _ hW10), ⟨[], upd_same, .nil⟩, (fun _ h => nomatch h), by omega, by omega⟩, npa⟩
  have X14 := X10.mono sT
  generalize upd H13 pa (.lst []) = H14 at *
  clear sT s11 s12 s13 s14 hl1' hl1 hl2 hb13 X10 G10 S10 hW10
  refine ⟨_, rfl, _, rfl, _, rfl, _, rfl, p, dx, wt, pt, al, u, v, r, [], [], W, pa, rfl, I14.g, I14.l, Nat.zero_le _, hr3, fun H15 s15 => ⟨_, rfl, ite2 (fun z => (nomatch z)) (fun _ => ?_)⟩⟩
  have I15 := I14.same s15
  have X15 := X14.mono s15
  refine ⟨_, rfl, a, 9, rfl, by omega, by omega, pp, I15.s, fun n H16 m0 m1 B16 S16 => ?_⟩
  have I16 := I15.draw B16 S16
  have X16 : GameSt H16 p2 C dx2 wt2 pt2 al v u r [] [] := by
    obtain ⟨zs, hz⟩ := I15.s.lst
    exact X15.butL B16 hz
  refine ⟨_, rfl, by omega, by omega, ?_⟩
  refine for_range (lo := 0) (n := n.toNat) (fun i σ H' => ∃ (prs : Prs) (qs : List Addr) (pt' pa' : Addr) (y10 y11 : Option V), σ = [some (.ref a0), some (.ref a), some (.str (S al)), some (.str (S u)), some (.str (S v)), some (.int (r : Int)), some (.ref W), some (.ref p), some (.ref p2), some (.ref pa'), y10, y11] ∧ DI K H' p C dx wt pt' al u v r prs qs a pp W pa' ∧ prs.length ≤ r ∧ GameSt H' p2 C dx2 wt2 pt2 al v u r [] []) ⟨[], [], pt, pa, none, none, rfl, I16, Nat.zero_le _, X16⟩ ?_ ?_
  · rintro i σ H17 hi ⟨prs, qs, pt7, pa7, y10, y11, rfl, I17, hp17, X17⟩
    refine ⟨_, rfl, _, rfl, _, rfl, _, rfl, _, rfl, p, dx, wt, pt7, al, u, v, r, prs, qs, a, pp, W, pa7, rfl, I17, hp17, hr3, fun l H18 pt8 prs8 qs8 pa8 b18 I18 hp18 hl18 => ?_⟩
    have X18 : GameSt H18 p2 C dx2 wt2 pt2 al v u r [] [] := by
      obtain ⟨zs, hz⟩ := I17.s.lst
      exact X17.but2 b18 hz I17.g.o (Ne.symm npp)
    refine ⟨_, rfl, l, _, 1, .ref pa8, rfl, rfl, SqL.of hl18, rfl, ?_⟩
    refine ⟨_, rfl, l, _, 0, .bl true, rfl, rfl, SqL.of hl18, rfl, _, rfl, ?_⟩
    refine ite2 (fun z => (nomatch z)) (fun _ => ?_)
    refine ⟨_, rfl, _, rfl, _, rfl, _, rfl, p, dx, wt, pt8, al, u, v, r, prs8, qs8, W, pa8, rfl, I18.g, I18.l, hp18, hr3, fun H19 s19 => ⟨_, rfl, ite2 (fun z => (nomatch z)) (fun _ => ?_)⟩⟩
    exact ⟨prs8, qs8, pt8, pa8, _, _, rfl, I18.same s19, hp18, X18.mono s19⟩
  rintro σ H17 ⟨prs, qs, pt7, pa7, y10, y11, rfl, I17, hp17, X17⟩
  -- the twin
  refine ⟨_, rfl, _, rfl, _, rfl, by show 2 ≤ sizeLine; decide, fun W2 hW2 => ?_⟩
  have s18 := same_new hW2 (.tup [.str (S v), .str (S u)])
  have hW2' : (upd H17 W2 (.tup [.str (S v), .str (S u)])) W2 = some (.tup [.str (S v), .str (S u)]) := upd_same
  generalize upd H17 W2 (.tup [.str (S v), .str (S u)]) = H18 at *
  refine ⟨Nat.zero_le _, fun l19 hl19 => ?_⟩
  have s19 := same_new hl19 (.lst [])
  have sA := s18.trans s19
  refine ⟨_, rfl, p2, dx2, wt2, pt2, al, v, u, r, [], [], W2, l19, rfl, X17.mono sA, ⟨SqT.of (s19 _ _ hW2'), ⟨[], upd_same, .nil⟩, (fun _ h => nomatch h), by omega, by omega⟩, Nat.zero_le _, hr3, fun H20 s20 => ⟨_, rfl, ite2 (fun z => (nomatch z)) (fun _ => ?_)⟩⟩
  have I20 := I17.same (sA.trans s20)
  have X20 := X17.mono (sA.trans s20)
  refine ⟨fun σ' H' => σ' = [some (.ref a0), some (.ref a), some (.str (S al)), some (.str (S u)), some (.str (S v)), some (.int (r : Int)), some (.ref W), some (.ref p), some (.ref p2), some (.ref pa7), y10, y11] ∧ DI K H' p C dx wt pt7 al u v r prs qs a pp W pa7, ?_, ?_⟩
  · refine ⟨_, rfl, _, _, rfl, rfl, _, rfl, ?_⟩
    refine ite2 (fun e => ?_) (fun _ => ite2 (fun z => (nomatch z)) (fun _ => ⟨rfl, I20⟩))
    have r1 : 0 < r := by have := of_decide_eq_true e; omega
    refine ⟨_, rfl, _, rfl, _, rfl, by rw [S_len]; exact sz (by omega), p2, dx2, wt2, pt2, al, v, u, r, _, _, _, [], [], rfl, X20, by omega, by omega, hr3, Nat.zero_le _, ?_⟩
    refine FGood.choice (n := 0) (m := 0) ⟨r1, by omega, rfl, rfl, Nat.zero_le _⟩ ⟨fun z => absurd ⟨by omega, by rw [S_len]; exact Int.le_refl _⟩ z, fun k ek hk l21 H21 pt21 qs21 b21 g21 h21 => ?_⟩
    have I21 := I20.twin b21 X20.o npp
    refine ⟨by show 1 ≤ sizeLine; decide, fun l22 hl22 => ?_⟩
    have s22 := same_new hl22 (.lst [.non])
    refine ⟨_, _, .list [.none], .list [.none], rfl, .lst (SqL.of (s22 _ _ h21)) (.cons .non .nil), .lst (SqL.of upd_same) (.cons .non .nil), ⟨by show 1 ≤ 100000; omega, fun x hx => by rw [List.mem_singleton.mp hx]; trivial⟩, fun b23 H23 s23 hb23 => ?_⟩
    obtain rfl : b23 = true := hb23.mpr rfl
    exact ⟨_, rfl, ite2 (fun z => (nomatch z)) (fun _ => ⟨rfl, I21.same (s22.trans s23)⟩)⟩
  rintro σ' H24 ⟨rfl, I24⟩
  refine ⟨_, rfl, _, rfl, _, rfl, _, rfl, a, pp, al, u, v, rfl, hA, mu, mv, by omega, by omega, I24.s, fun H25 B25 S25 => ⟨_, rfl, ite2 (fun z => (nomatch z)) (fun _ => ?_)⟩⟩
  have I25 := I24.draw B25 S25
  exact ⟨_, rfl, _, rfl, _, rfl, _, rfl, p, dx, wt, pt7, al, u, v, r, prs, qs, W, pa7, rfl, I25.g, I25.l, hp17, hr3, fun H26 _ => q H26⟩
end
end W8

set_option Elab.async false
set_option linter.all false
set_option maxRecDepth 100000
set_option maxHeartbeats 4000000
set_option pp.maxSteps 60
namespace W8
open PySem L2 L2E NK GM
def cAt (x : Addr) (es : List Addr) (i : Nat) : Addr := es.getD i x
theorem kit_ve {K : PySem.W.Frag} {D : Addr} (h : PySem.W.subIn K (.ref D) (.type "ValueError") = some true) : PySem.W.kitOne K (.ref D) (.type "ValueError") = some true := by
  unfold PySem.W.kitOne
  rw [if_neg (by intro z; cases (beq_iff_eq.mp z))]
  show (if PySem.W.kitMeta "ValueError" = true then PySem.W.subIn K (.ref D) (.type "ValueError") else none) = some true
  rw [if_pos (by decide +kernel)]
  exact h
theorem kit_ref {K : PySem.W.Frag} {D C : Addr} {b : Bool} (hd : PySem.W.hasDictIn K C = true) (ht : PySem.W.typeIn K (.ref C) = some (.type "type")) (h : PySem.W.subIn K (.ref D) (.ref C) = some b) (self : PySem.W.subIn K (.ref D) (.ref D) = some true) : PySem.W.kitOne K (.ref D) (.ref C) = some b := by
  unfold PySem.W.kitOne
  by_cases e : (Value.ref D == Value.ref C) = true
  · rw [if_pos e]
    have e2 : D = C := by simpa using e
    subst e2
    rw [self] at h
    exact h
  · rw [if_neg e]
    obtain ⟨cd, hc, _⟩ := PySem.W.any_some hd
    show (if ((PySem.W.clsIn K C).isSome && PySem.W.typeIn K (.ref C) == some (.type "type")) = true then PySem.W.subIn K (.ref D) (.ref C) else none) = some b
    rw [if_pos (by rw [hc, ht]; rfl)]
    exact h
theorem all_mk {l : PySem.W.OpenLaw} {w : World} {K : PySem.W.Frag} {h : Heap} {mg : Str → Option Value} (X : K.In h) (G : h.Ns mainGlobals mg)
    {t_ML t_SM u_G_MOST_ROUNDS : Tok}
    {E_1 E_2 E_3 E_4 E_5 E_6 E_7 E_8 E_9 E_10 E_11 E_12 E_13 E_14 E_15 E_16 E_17 E_18 : Addr}
    {nm_7 q_7 qu_7 ms_7 fi_7 : Str}
    {N_7 cc_7 cda_7 I_7 : Addr}
    {bs_7 bm_7 sub_7 : List Value}
    {sn_7 : List Str}
    {ab_7 : Bool}
    {col_7 : Option Bool}
    {dd_7 xd_7 xa_7 cdd_7 cld_7 : Option Addr}
    {k0_7 k1_7 k2_7 k3_7 k5_7 : Option Value}
    {xoc_7 xdoc_7 xpm_7 xct_7 ccl_7 cl_7 : Value}
    {j_7 : Nat}
    {p0_7 p1_7 p2_7 p3_7 p4_7 p5_7 q1_7 q2_7 q3_7 q4_7 r1_7 r2_7 : Pos}
    {tf_7 : Tok}
    {cdD_7 : ClassData}
    {xsl_7 ccs_7 csl_7 : Array (Option Value)}
    {vs_7 : Array Value}
    {nm_8 q_8 qu_8 ms_8 fi_8 : Str}
    {N_8 cc_8 cda_8 I_8 : Addr}
    {bs_8 bm_8 sub_8 : List Value}
    {sn_8 : List Str}
    {ab_8 : Bool}
    {col_8 : Option Bool}
    {dd_8 xd_8 xa_8 cdd_8 cld_8 : Option Addr}
    {k0_8 k1_8 k2_8 k3_8 k5_8 : Option Value}
    {xoc_8 xdoc_8 xpm_8 xct_8 ccl_8 cl_8 : Value}
    {j_8 : Nat}
    {p0_8 p1_8 p2_8 p3_8 p4_8 p5_8 q1_8 q2_8 q3_8 q4_8 r1_8 r2_8 : Pos}
    {tf_8 : Tok}
    {cdD_8 : ClassData}
    {xsl_8 ccs_8 csl_8 : Array (Option Value)}
    {vs_8 : Array Value}
    {nm_15 q_15 qu_15 ms_15 fi_15 : Str}
    {N_15 cc_15 cda_15 I_15 : Addr}
    {bs_15 bm_15 sub_15 : List Value}
    {sn_15 : List Str}
    {ab_15 : Bool}
    {col_15 : Option Bool}
    {dd_15 xd_15 xa_15 cdd_15 cld_15 : Option Addr}
    {k0_15 k1_15 k2_15 k3_15 k5_15 : Option Value}
    {xoc_15 xdoc_15 xpm_15 xct_15 ccl_15 cl_15 : Value}
    {j_15 : Nat}
    {p0_15 p1_15 p2_15 p3_15 p4_15 p5_15 q1_15 q2_15 q3_15 q4_15 r1_15 r2_15 : Pos}
    {tf_15 : Tok}
    {cdD_15 : ClassData}
    {xsl_15 ccs_15 csl_15 : Array (Option Value)}
    {vs_15 : Array Value}
    {uvG : Value}
    {od_letter_at an_letter_at : Option Addr}
    {sl_letter_at : Array (Option Value)}
    {oc_letter_at kV_letter_at dc_letter_at pm_letter_at cd_letter_at ct_letter_at : Value}
    {od_plain an_plain : Option Addr}
    {sl_plain : Array (Option Value)}
    {oc_plain kV_plain dc_plain pm_plain cd_plain ct_plain : Value}
    {od_kind an_kind : Option Addr}
    {sl_kind : Array (Option Value)}
    {oc_kind kV_kind dc_kind pm_kind cd_kind ct_kind : Value}
    {od_checkL an_checkL : Option Addr}
    {sl_checkL : Array (Option Value)}
    {oc_checkL kV_checkL dc_checkL pm_checkL cd_checkL ct_checkL : Value}
    {od_checkW an_checkW : Option Addr}
    {sl_checkW : Array (Option Value)}
    {oc_checkW kV_checkW dc_checkW pm_checkW cd_checkW ct_checkW : Value}
    {od_checkP an_checkP : Option Addr}
    {sl_checkP : Array (Option Value)}
    {oc_checkP kV_checkP dc_checkP pm_checkP cd_checkP ct_checkP : Value}
    {od_init an_init : Option Addr}
    {sl_init : Array (Option Value)}
    {oc_init kV_init dc_init pm_init cd_init ct_init : Value}
    {od_len an_len : Option Addr}
    {sl_len : Array (Option Value)}
    {oc_len kV_len dc_len pm_len cd_len ct_len : Value}
    {od_choice an_choice : Option Addr}
    {sl_choice : Array (Option Value)}
    {oc_choice kV_choice dc_choice pm_choice cd_choice ct_choice : Value}
    {od_play an_play : Option Addr}
    {sl_play : Array (Option Value)}
    {oc_play kV_play dc_play pm_play cd_play ct_play : Value}
    {od_back an_back : Option Addr}
    {sl_back : Array (Option Value)}
    {oc_back kV_back dc_back pm_back cd_back ct_back : Value}
    {od_wins an_wins : Option Addr}
    {sl_wins : Array (Option Value)}
    {oc_wins kV_wins dc_wins pm_wins cd_wins ct_wins : Value}
    {od_kinds an_kinds : Option Addr}
    {sl_kinds : Array (Option Value)}
    {oc_kinds kV_kinds dc_kinds pm_kinds cd_kinds ct_kinds : Value}
    {od_reply an_reply : Option Addr}
    {sl_reply : Array (Option Value)}
    {oc_reply kV_reply dc_reply pm_reply cd_reply ct_reply : Value}
    {od_attack an_attack : Option Addr}
    {sl_attack : Array (Option Value)}
    {oc_attack kV_attack dc_attack pm_attack cd_attack ct_attack : Value}
    {od_new an_new : Option Addr}
    {sl_new : Array (Option Value)}
    {oc_new kV_new dc_new pm_new cd_new ct_new : Value}
    {od_draw an_draw : Option Addr}
    {sl_draw : Array (Option Value)}
    {oc_draw kV_draw dc_draw pm_draw cd_draw ct_draw : Value}
    {od_same an_same : Option Addr}
    {sl_same : Array (Option Value)}
    {oc_same kV_same dc_same pm_same cd_same ct_same : Value}
    {od_letters an_letters : Option Addr}
    {sl_letters : Array (Option Value)}
    {oc_letters kV_letters dc_letters pm_letters cd_letters ct_letters : Value}
    {od_word an_word : Option Addr}
    {sl_word : Array (Option Value)}
    {oc_word kV_word dc_word pm_word cd_word ct_word : Value}
    {od_classes an_classes : Option Addr}
    {sl_classes : Array (Option Value)}
    {oc_classes kV_classes dc_classes pm_classes cd_classes ct_classes : Value}
    {od_stranger an_stranger : Option Addr}
    {sl_stranger : Array (Option Value)}
    {oc_stranger kV_stranger dc_stranger pm_stranger cd_stranger ct_stranger : Value}
    {od_lplain an_lplain : Option Addr}
    {sl_lplain : Array (Option Value)}
    {oc_lplain kV_lplain dc_lplain pm_lplain cd_lplain ct_lplain : Value}
    {od_lkind an_lkind : Option Addr}
    {sl_lkind : Array (Option Value)}
    {oc_lkind kV_lkind dc_lkind pm_lkind cd_lkind ct_lkind : Value}
    {od_chosen an_chosen : Option Addr}
    {sl_chosen : Array (Option Value)}
    {oc_chosen kV_chosen dc_chosen pm_chosen cd_chosen ct_chosen : Value}
    {od_lwins an_lwins : Option Addr}
    {sl_lwins : Array (Option Value)}
    {oc_lwins kV_lwins dc_lwins pm_lwins cd_lwins ct_lwins : Value}
    {od_lreply an_lreply : Option Addr}
    {sl_lreply : Array (Option Value)}
    {oc_lreply kV_lreply dc_lreply pm_lreply cd_lreply ct_lreply : Value}
    {od_lattack an_lattack : Option Addr}
    {sl_lattack : Array (Option Value)}
    {oc_lattack kV_lattack dc_lattack pm_lattack cd_lattack ct_lattack : Value}
    {od_fault an_fault : Option Addr}
    {sl_fault : Array (Option Value)}
    {oc_fault kV_fault dc_fault pm_fault cd_fault ct_fault : Value}
    {od_played an_played : Option Addr}
    {sl_played : Array (Option Value)}
    {oc_played kV_played dc_played pm_played cd_played ct_played : Value}
    {od_replied an_replied : Option Addr}
    {sl_replied : Array (Option Value)}
    {oc_replied kV_replied dc_replied pm_replied cd_replied ct_replied : Value}
    {od_begun an_begun : Option Addr}
    {sl_begun : Array (Option Value)}
    {oc_begun kV_begun dc_begun pm_begun cd_begun ct_begun : Value}
    {od_stands an_stands : Option Addr}
    {sl_stands : Array (Option Value)}
    {oc_stands kV_stands dc_stands pm_stands cd_stands ct_stands : Value}
    {od_deed an_deed : Option Addr}
    {sl_deed : Array (Option Value)}
    {oc_deed kV_deed dc_deed pm_deed cd_deed ct_deed : Value}
    {od_refusals an_refusals : Option Addr}
    {sl_refusals : Array (Option Value)}
    {oc_refusals kV_refusals dc_refusals pm_refusals cd_refusals ct_refusals : Value}
    {od_law an_law : Option Addr}
    {sl_law : Array (Option Value)}
    {oc_law kV_law dc_law pm_law cd_law ct_law : Value}
    {fa C_G f_letter_at f_plain f_kind f_checkL f_checkW f_checkP f_init f_len f_choice f_play f_back f_wins f_kinds f_reply f_attack f_new f_draw f_same f_letters f_word f_classes f_stranger f_lplain f_lkind f_chosen f_lwins f_lreply f_lattack f_fault f_played f_replied f_begun f_stands f_deed f_refusals f_law : Addr}
    (hfa : mg "law" = some (.ref fa))
    (aC_G : PySem.W.nsIn K mainGlobals "Game" = some (some (.ref C_G)))
    (a_letter_at : PySem.W.nsIn K mainGlobals "letter_at" = some (some (.ref f_letter_at)))
    (l_letter_at : K.lookup f_letter_at = some ⟨oc_letter_at, od_letter_at, .func (PySem.W.fnOf "letter_at" "letter_at" (defArgs sLetter_at) (defBody sLetter_at) (defScope sLetter_at) .none kV_letter_at dc_letter_at pm_letter_at an_letter_at cd_letter_at ct_letter_at), sl_letter_at⟩)
    (c_letter_at : PySem.W.codeIn K cd_letter_at "letter_at" = true)
    (k_letter_at : PySem.W.keepIn K (.ref f_letter_at) = true)
    (a_plain : PySem.W.nsIn K mainGlobals "plain_kind" = some (some (.ref f_plain)))
    (l_plain : K.lookup f_plain = some ⟨oc_plain, od_plain, .func (PySem.W.fnOf "plain_kind" "plain_kind" (defArgs sPlain) (defBody sPlain) (defScope sPlain) .none kV_plain dc_plain pm_plain an_plain cd_plain ct_plain), sl_plain⟩)
    (c_plain : PySem.W.codeIn K cd_plain "plain_kind" = true)
    (k_plain : PySem.W.keepIn K (.ref f_plain) = true)
    (a_kind : PySem.W.nsIn K mainGlobals "kind_number" = some (some (.ref f_kind)))
    (l_kind : K.lookup f_kind = some ⟨oc_kind, od_kind, .func (PySem.W.fnOf "kind_number" "kind_number" (defArgs sKindN) (defBody sKindN) (defScope sKindN) .none kV_kind dc_kind pm_kind an_kind cd_kind ct_kind), sl_kind⟩)
    (c_kind : PySem.W.codeIn K cd_kind "kind_number" = true)
    (k_kind : PySem.W.keepIn K (.ref f_kind) = true)
    (a_checkL : PySem.W.nsIn K mainGlobals "check_letters" = some (some (.ref f_checkL)))
    (l_checkL : K.lookup f_checkL = some ⟨oc_checkL, od_checkL, .func (PySem.W.fnOf "check_letters" "check_letters" (defArgs sCheckL) (defBody sCheckL) (defScope sCheckL) .none kV_checkL dc_checkL pm_checkL an_checkL cd_checkL ct_checkL), sl_checkL⟩)
    (c_checkL : PySem.W.codeIn K cd_checkL "check_letters" = true)
    (k_checkL : PySem.W.keepIn K (.ref f_checkL) = true)
    (a_checkW : PySem.W.nsIn K mainGlobals "check_word" = some (some (.ref f_checkW)))
    (l_checkW : K.lookup f_checkW = some ⟨oc_checkW, od_checkW, .func (PySem.W.fnOf "check_word" "check_word" (defArgs sCheckW) (defBody sCheckW) (defScope sCheckW) .none kV_checkW dc_checkW pm_checkW an_checkW cd_checkW ct_checkW), sl_checkW⟩)
    (c_checkW : PySem.W.codeIn K cd_checkW "check_word" = true)
    (k_checkW : PySem.W.keepIn K (.ref f_checkW) = true)
    (a_checkP : PySem.W.nsIn K mainGlobals "check_place" = some (some (.ref f_checkP)))
    (l_checkP : K.lookup f_checkP = some ⟨oc_checkP, od_checkP, .func (PySem.W.fnOf "check_place" "check_place" (defArgs sCheck_place) (defBody sCheck_place) (defScope sCheck_place) .none kV_checkP dc_checkP pm_checkP an_checkP cd_checkP ct_checkP), sl_checkP⟩)
    (c_checkP : PySem.W.codeIn K cd_checkP "check_place" = true)
    (k_checkP : PySem.W.keepIn K (.ref f_checkP) = true)
    (a_init : PySem.W.findIn K (.ref C_G) "__init__" = some (some (.ref f_init)))
    (i_init : PySem.W.isFn K (.ref f_init) = true)
    (l_init : K.lookup f_init = some ⟨oc_init, od_init, .func (PySem.W.fnOf "__init__" "Game.__init__" (defArgs sInit) (defBody sInit) (defScope sInit) .none kV_init dc_init pm_init an_init cd_init ct_init), sl_init⟩)
    (c_init : PySem.W.codeIn K cd_init "Game.__init__" = true)
    (k_init : PySem.W.keepIn K (.ref f_init) = true)
    (a_len : PySem.W.findIn K (.ref C_G) "__len__" = some (some (.ref f_len)))
    (i_len : PySem.W.isFn K (.ref f_len) = true)
    (l_len : K.lookup f_len = some ⟨oc_len, od_len, .func (PySem.W.fnOf "__len__" "Game.__len__" (defArgs sLenG) (defBody sLenG) (defScope sLenG) .none kV_len dc_len pm_len an_len cd_len ct_len), sl_len⟩)
    (c_len : PySem.W.codeIn K cd_len "Game.__len__" = true)
    (k_len : PySem.W.keepIn K (.ref f_len) = true)
    (a_choice : PySem.W.findIn K (.ref C_G) "check_choice" = some (some (.ref f_choice)))
    (i_choice : PySem.W.isFn K (.ref f_choice) = true)
    (l_choice : K.lookup f_choice = some ⟨oc_choice, od_choice, .func (PySem.W.fnOf "check_choice" "Game.check_choice" (defArgs sChoice) (defBody sChoice) (defScope sChoice) .none kV_choice dc_choice pm_choice an_choice cd_choice ct_choice), sl_choice⟩)
    (c_choice : PySem.W.codeIn K cd_choice "Game.check_choice" = true)
    (k_choice : PySem.W.keepIn K (.ref f_choice) = true)
    (a_play : PySem.W.findIn K (.ref C_G) "play" = some (some (.ref f_play)))
    (i_play : PySem.W.isFn K (.ref f_play) = true)
    (l_play : K.lookup f_play = some ⟨oc_play, od_play, .func (PySem.W.fnOf "play" "Game.play" (defArgs sPlay) (defBody sPlay) (defScope sPlay) .none kV_play dc_play pm_play an_play cd_play ct_play), sl_play⟩)
    (c_play : PySem.W.codeIn K cd_play "Game.play" = true)
    (k_play : PySem.W.keepIn K (.ref f_play) = true)
    (a_back : PySem.W.findIn K (.ref C_G) "back" = some (some (.ref f_back)))
    (i_back : PySem.W.isFn K (.ref f_back) = true)
    (l_back : K.lookup f_back = some ⟨oc_back, od_back, .func (PySem.W.fnOf "back" "Game.back" (defArgs sBack) (defBody sBack) (defScope sBack) .none kV_back dc_back pm_back an_back cd_back ct_back), sl_back⟩)
    (c_back : PySem.W.codeIn K cd_back "Game.back" = true)
    (k_back : PySem.W.keepIn K (.ref f_back) = true)
    (a_wins : PySem.W.findIn K (.ref C_G) "wins" = some (some (.ref f_wins)))
    (i_wins : PySem.W.isFn K (.ref f_wins) = true)
    (l_wins : K.lookup f_wins = some ⟨oc_wins, od_wins, .func (PySem.W.fnOf "wins" "Game.wins" (defArgs sWins) (defBody sWins) (defScope sWins) .none kV_wins dc_wins pm_wins an_wins cd_wins ct_wins), sl_wins⟩)
    (c_wins : PySem.W.codeIn K cd_wins "Game.wins" = true)
    (k_wins : PySem.W.keepIn K (.ref f_wins) = true)
    (a_kinds : PySem.W.findIn K (.ref C_G) "kinds" = some (some (.ref f_kinds)))
    (i_kinds : PySem.W.isFn K (.ref f_kinds) = true)
    (l_kinds : K.lookup f_kinds = some ⟨oc_kinds, od_kinds, .func (PySem.W.fnOf "kinds" "Game.kinds" (defArgs sKinds) (defBody sKinds) (defScope sKinds) .none kV_kinds dc_kinds pm_kinds an_kinds cd_kinds ct_kinds), sl_kinds⟩)
    (c_kinds : PySem.W.codeIn K cd_kinds "Game.kinds" = true)
    (k_kinds : PySem.W.keepIn K (.ref f_kinds) = true)
    (a_reply : PySem.W.findIn K (.ref C_G) "reply" = some (some (.ref f_reply)))
    (i_reply : PySem.W.isFn K (.ref f_reply) = true)
    (l_reply : K.lookup f_reply = some ⟨oc_reply, od_reply, .func (PySem.W.fnOf "reply" "Game.reply" (defArgs sReply) (defBody sReply) (defScope sReply) .none kV_reply dc_reply pm_reply an_reply cd_reply ct_reply), sl_reply⟩)
    (c_reply : PySem.W.codeIn K cd_reply "Game.reply" = true)
    (k_reply : PySem.W.keepIn K (.ref f_reply) = true)
    (a_attack : PySem.W.findIn K (.ref C_G) "attack" = some (some (.ref f_attack)))
    (i_attack : PySem.W.isFn K (.ref f_attack) = true)
    (l_attack : K.lookup f_attack = some ⟨oc_attack, od_attack, .func (PySem.W.fnOf "attack" "Game.attack" (defArgs sAttack) (defBody sAttack) (defScope sAttack) .none kV_attack dc_attack pm_attack an_attack cd_attack ct_attack), sl_attack⟩)
    (c_attack : PySem.W.codeIn K cd_attack "Game.attack" = true)
    (k_attack : PySem.W.keepIn K (.ref f_attack) = true)
    (a_new : PySem.W.nsIn K mainGlobals "_law_new" = some (some (.ref f_new)))
    (l_new : K.lookup f_new = some ⟨oc_new, od_new, .func (PySem.W.fnOf "_law_new" "_law_new" (defArgs sNew) (defBody sNew) (defScope sNew) .none kV_new dc_new pm_new an_new cd_new ct_new), sl_new⟩)
    (c_new : PySem.W.codeIn K cd_new "_law_new" = true)
    (k_new : PySem.W.keepIn K (.ref f_new) = true)
    (a_draw : PySem.W.nsIn K mainGlobals "_law_draw" = some (some (.ref f_draw)))
    (l_draw : K.lookup f_draw = some ⟨oc_draw, od_draw, .func (PySem.W.fnOf "_law_draw" "_law_draw" (defArgs sDraw) (defBody sDraw) (defScope sDraw) .none kV_draw dc_draw pm_draw an_draw cd_draw ct_draw), sl_draw⟩)
    (c_draw : PySem.W.codeIn K cd_draw "_law_draw" = true)
    (k_draw : PySem.W.keepIn K (.ref f_draw) = true)
    (a_same : PySem.W.nsIn K mainGlobals "_law_same" = some (some (.ref f_same)))
    (l_same : K.lookup f_same = some ⟨oc_same, od_same, .func (PySem.W.fnOf "_law_same" "_law_same" (defArgs sSame) (defBody sSame) (defScope sSame) .none kV_same dc_same pm_same an_same cd_same ct_same), sl_same⟩)
    (c_same : PySem.W.codeIn K cd_same "_law_same" = true)
    (k_same : PySem.W.keepIn K (.ref f_same) = true)
    (a_letters : PySem.W.nsIn K mainGlobals "_law_letters" = some (some (.ref f_letters)))
    (l_letters : K.lookup f_letters = some ⟨oc_letters, od_letters, .func (PySem.W.fnOf "_law_letters" "_law_letters" (defArgs sLetters) (defBody sLetters) (defScope sLetters) .none kV_letters dc_letters pm_letters an_letters cd_letters ct_letters), sl_letters⟩)
    (c_letters : PySem.W.codeIn K cd_letters "_law_letters" = true)
    (k_letters : PySem.W.keepIn K (.ref f_letters) = true)
    (a_word : PySem.W.nsIn K mainGlobals "_law_word" = some (some (.ref f_word)))
    (l_word : K.lookup f_word = some ⟨oc_word, od_word, .func (PySem.W.fnOf "_law_word" "_law_word" (defArgs sWord) (defBody sWord) (defScope sWord) .none kV_word dc_word pm_word an_word cd_word ct_word), sl_word⟩)
    (c_word : PySem.W.codeIn K cd_word "_law_word" = true)
    (k_word : PySem.W.keepIn K (.ref f_word) = true)
    (a_classes : PySem.W.nsIn K mainGlobals "_law_classes" = some (some (.ref f_classes)))
    (l_classes : K.lookup f_classes = some ⟨oc_classes, od_classes, .func (PySem.W.fnOf "_law_classes" "_law_classes" (defArgs sClasses) (defBody sClasses) (defScope sClasses) .none kV_classes dc_classes pm_classes an_classes cd_classes ct_classes), sl_classes⟩)
    (c_classes : PySem.W.codeIn K cd_classes "_law_classes" = true)
    (k_classes : PySem.W.keepIn K (.ref f_classes) = true)
    (a_stranger : PySem.W.nsIn K mainGlobals "_law_stranger" = some (some (.ref f_stranger)))
    (l_stranger : K.lookup f_stranger = some ⟨oc_stranger, od_stranger, .func (PySem.W.fnOf "_law_stranger" "_law_stranger" (defArgs sStranger) (defBody sStranger) (defScope sStranger) .none kV_stranger dc_stranger pm_stranger an_stranger cd_stranger ct_stranger), sl_stranger⟩)
    (c_stranger : PySem.W.codeIn K cd_stranger "_law_stranger" = true)
    (k_stranger : PySem.W.keepIn K (.ref f_stranger) = true)
    (a_lplain : PySem.W.nsIn K mainGlobals "_law_plain" = some (some (.ref f_lplain)))
    (l_lplain : K.lookup f_lplain = some ⟨oc_lplain, od_lplain, .func (PySem.W.fnOf "_law_plain" "_law_plain" (defArgs sLPlain) (defBody sLPlain) (defScope sLPlain) .none kV_lplain dc_lplain pm_lplain an_lplain cd_lplain ct_lplain), sl_lplain⟩)
    (c_lplain : PySem.W.codeIn K cd_lplain "_law_plain" = true)
    (k_lplain : PySem.W.keepIn K (.ref f_lplain) = true)
    (a_lkind : PySem.W.nsIn K mainGlobals "_law_kind" = some (some (.ref f_lkind)))
    (l_lkind : K.lookup f_lkind = some ⟨oc_lkind, od_lkind, .func (PySem.W.fnOf "_law_kind" "_law_kind" (defArgs sLKind) (defBody sLKind) (defScope sLKind) .none kV_lkind dc_lkind pm_lkind an_lkind cd_lkind ct_lkind), sl_lkind⟩)
    (c_lkind : PySem.W.codeIn K cd_lkind "_law_kind" = true)
    (k_lkind : PySem.W.keepIn K (.ref f_lkind) = true)
    (a_chosen : PySem.W.nsIn K mainGlobals "_law_chosen" = some (some (.ref f_chosen)))
    (l_chosen : K.lookup f_chosen = some ⟨oc_chosen, od_chosen, .func (PySem.W.fnOf "_law_chosen" "_law_chosen" (defArgs sChosen) (defBody sChosen) (defScope sChosen) .none kV_chosen dc_chosen pm_chosen an_chosen cd_chosen ct_chosen), sl_chosen⟩)
    (c_chosen : PySem.W.codeIn K cd_chosen "_law_chosen" = true)
    (k_chosen : PySem.W.keepIn K (.ref f_chosen) = true)
    (a_lwins : PySem.W.nsIn K mainGlobals "_law_wins" = some (some (.ref f_lwins)))
    (l_lwins : K.lookup f_lwins = some ⟨oc_lwins, od_lwins, .func (PySem.W.fnOf "_law_wins" "_law_wins" (defArgs sLWins) (defBody sLWins) (defScope sLWins) .none kV_lwins dc_lwins pm_lwins an_lwins cd_lwins ct_lwins), sl_lwins⟩)
    (c_lwins : PySem.W.codeIn K cd_lwins "_law_wins" = true)
    (k_lwins : PySem.W.keepIn K (.ref f_lwins) = true)
    (a_lreply : PySem.W.nsIn K mainGlobals "_law_reply" = some (some (.ref f_lreply)))
    (l_lreply : K.lookup f_lreply = some ⟨oc_lreply, od_lreply, .func (PySem.W.fnOf "_law_reply" "_law_reply" (defArgs sLReply) (defBody sLReply) (defScope sLReply) .none kV_lreply dc_lreply pm_lreply an_lreply cd_lreply ct_lreply), sl_lreply⟩)
    (c_lreply : PySem.W.codeIn K cd_lreply "_law_reply" = true)
    (k_lreply : PySem.W.keepIn K (.ref f_lreply) = true)
    (a_lattack : PySem.W.nsIn K mainGlobals "_law_attack" = some (some (.ref f_lattack)))
    (l_lattack : K.lookup f_lattack = some ⟨oc_lattack, od_lattack, .func (PySem.W.fnOf "_law_attack" "_law_attack" (defArgs sLAttack) (defBody sLAttack) (defScope sLAttack) .none kV_lattack dc_lattack pm_lattack an_lattack cd_lattack ct_lattack), sl_lattack⟩)
    (c_lattack : PySem.W.codeIn K cd_lattack "_law_attack" = true)
    (k_lattack : PySem.W.keepIn K (.ref f_lattack) = true)
    (a_fault : PySem.W.nsIn K mainGlobals "_law_fault" = some (some (.ref f_fault)))
    (l_fault : K.lookup f_fault = some ⟨oc_fault, od_fault, .func (PySem.W.fnOf "_law_fault" "_law_fault" (defArgs sFault) (defBody sFault) (defScope sFault) .none kV_fault dc_fault pm_fault an_fault cd_fault ct_fault), sl_fault⟩)
    (c_fault : PySem.W.codeIn K cd_fault "_law_fault" = true)
    (k_fault : PySem.W.keepIn K (.ref f_fault) = true)
    (a_played : PySem.W.nsIn K mainGlobals "_law_played" = some (some (.ref f_played)))
    (l_played : K.lookup f_played = some ⟨oc_played, od_played, .func (PySem.W.fnOf "_law_played" "_law_played" (defArgs sPlayed) (defBody sPlayed) (defScope sPlayed) .none kV_played dc_played pm_played an_played cd_played ct_played), sl_played⟩)
    (c_played : PySem.W.codeIn K cd_played "_law_played" = true)
    (k_played : PySem.W.keepIn K (.ref f_played) = true)
    (a_replied : PySem.W.nsIn K mainGlobals "_law_replied" = some (some (.ref f_replied)))
    (l_replied : K.lookup f_replied = some ⟨oc_replied, od_replied, .func (PySem.W.fnOf "_law_replied" "_law_replied" (defArgs sReplied) (defBody sReplied) (defScope sReplied) .none kV_replied dc_replied pm_replied an_replied cd_replied ct_replied), sl_replied⟩)
    (c_replied : PySem.W.codeIn K cd_replied "_law_replied" = true)
    (k_replied : PySem.W.keepIn K (.ref f_replied) = true)
    (a_begun : PySem.W.nsIn K mainGlobals "_law_begun" = some (some (.ref f_begun)))
    (l_begun : K.lookup f_begun = some ⟨oc_begun, od_begun, .func (PySem.W.fnOf "_law_begun" "_law_begun" (defArgs sBegun) (defBody sBegun) (defScope sBegun) .none kV_begun dc_begun pm_begun an_begun cd_begun ct_begun), sl_begun⟩)
    (c_begun : PySem.W.codeIn K cd_begun "_law_begun" = true)
    (k_begun : PySem.W.keepIn K (.ref f_begun) = true)
    (a_stands : PySem.W.nsIn K mainGlobals "_law_stands" = some (some (.ref f_stands)))
    (l_stands : K.lookup f_stands = some ⟨oc_stands, od_stands, .func (PySem.W.fnOf "_law_stands" "_law_stands" (defArgs sStands) (defBody sStands) (defScope sStands) .none kV_stands dc_stands pm_stands an_stands cd_stands ct_stands), sl_stands⟩)
    (c_stands : PySem.W.codeIn K cd_stands "_law_stands" = true)
    (k_stands : PySem.W.keepIn K (.ref f_stands) = true)
    (a_deed : PySem.W.nsIn K mainGlobals "_law_deed" = some (some (.ref f_deed)))
    (l_deed : K.lookup f_deed = some ⟨oc_deed, od_deed, .func (PySem.W.fnOf "_law_deed" "_law_deed" (defArgs sDeed) (defBody sDeed) (defScope sDeed) .none kV_deed dc_deed pm_deed an_deed cd_deed ct_deed), sl_deed⟩)
    (c_deed : PySem.W.codeIn K cd_deed "_law_deed" = true)
    (k_deed : PySem.W.keepIn K (.ref f_deed) = true)
    (a_refusals : PySem.W.nsIn K mainGlobals "_law_refusals" = some (some (.ref f_refusals)))
    (l_refusals : K.lookup f_refusals = some ⟨oc_refusals, od_refusals, .func (PySem.W.fnOf "_law_refusals" "_law_refusals" (defArgs sRefusals) (defBody sRefusals) (defScope sRefusals) .none kV_refusals dc_refusals pm_refusals an_refusals cd_refusals ct_refusals), sl_refusals⟩)
    (c_refusals : PySem.W.codeIn K cd_refusals "_law_refusals" = true)
    (k_refusals : PySem.W.keepIn K (.ref f_refusals) = true)
    (a_law : PySem.W.nsIn K mainGlobals "law" = some (some (.ref f_law)))
    (l_law : K.lookup f_law = some ⟨oc_law, od_law, .func (PySem.W.fnOf "law" "law" (defArgs sLaw) (defBody sLaw) (defScope sLaw) .none kV_law dc_law pm_law an_law cd_law ct_law), sl_law⟩)
    (c_law : PySem.W.codeIn K cd_law "law" = true)
    (k_law : PySem.W.keepIn K (.ref f_law) = true)
    (pg_G : PySem.W.plainGet K C_G Str.empty = true)
    (hd_G : PySem.W.hasDictIn K C_G = true)
    (po_G : PySem.W.plainOver K C_G = true)
    (sa_G : PySem.W.findIn K (.ref C_G) "__setattr__" = some (some (.builtin "object.__setattr__")))
    (mk_G : PySem.W.makesIn K C_G = true)
    (kc_G : PySem.W.keepIn K (.ref C_G) = true)
    (n_G_letters : PySem.W.findIn K (.ref C_G) "letters" = some none)
    (n_G_words : PySem.W.findIn K (.ref C_G) "words" = some none)
    (n_G_rounds : PySem.W.findIn K (.ref C_G) "rounds" = some none)
    (n_G_pairs : PySem.W.findIn K (.ref C_G) "pairs" = some none)
    (g_ML : PySem.W.nsIn K mainGlobals "MOST_LETTERS" = some (some (.int 3 t_ML)))
    (g_SM : PySem.W.nsIn K mainGlobals "SMALL" = some (some (.str "abcdefghijklmnopqrstuvwxyz" t_SM)))
    (co_G_MOST_ROUNDS : PySem.W.findIn K (.ref C_G) "MOST_ROUNDS" = some (some (.int 3 u_G_MOST_ROUNDS)))
    (cg_G_MOST_ROUNDS : PySem.W.specialIn K (.int 3 u_G_MOST_ROUNDS) "__get__" = some none)
    (z_len : PySem.W.nsIn K mainGlobals "len" = some none)
    (z_int : PySem.W.nsIn K mainGlobals "int" = some none)
    (z_range : PySem.W.nsIn K mainGlobals "range" = some none)
    (z_tuple : PySem.W.nsIn K mainGlobals "tuple" = some none)
    (z_set : PySem.W.nsIn K mainGlobals "set" = some none)
    (z_sorted : PySem.W.nsIn K mainGlobals "sorted" = some none)
    (z_enumerate : PySem.W.nsIn K mainGlobals "enumerate" = some none)
    (z_max : PySem.W.nsIn K mainGlobals "max" = some none)
    (z_min : PySem.W.nsIn K mainGlobals "min" = some none)
    (z_list : PySem.W.nsIn K mainGlobals "list" = some none)
    (z_isinstance : PySem.W.nsIn K mainGlobals "isinstance" = some none)
    (z_bool : PySem.W.nsIn K mainGlobals "bool" = some none)
    (z_str : PySem.W.nsIn K mainGlobals "str" = some none)
    (z_super : PySem.W.nsIn K mainGlobals "super" = some none)
    (z_ValueError : PySem.W.nsIn K mainGlobals "ValueError" = some none)
    (aE_1 : PySem.W.nsIn K mainGlobals "ToolError" = some (some (.ref E_1)))
    (hdE_1 : PySem.W.hasDictIn K E_1 = true)
    (tyE_1 : PySem.W.typeIn K (.ref E_1) = some (.type "type"))
    (exE_1 : PySem.W.subIn K (.ref E_1) (.type "BaseException") = some true)
    (kpE_1 : PySem.W.keepIn K (.ref E_1) = true)
    (aE_2 : PySem.W.nsIn K mainGlobals "LettersError" = some (some (.ref E_2)))
    (hdE_2 : PySem.W.hasDictIn K E_2 = true)
    (tyE_2 : PySem.W.typeIn K (.ref E_2) = some (.type "type"))
    (exE_2 : PySem.W.subIn K (.ref E_2) (.type "BaseException") = some true)
    (kpE_2 : PySem.W.keepIn K (.ref E_2) = true)
    (aE_3 : PySem.W.nsIn K mainGlobals "MixedLetters" = some (some (.ref E_3)))
    (hdE_3 : PySem.W.hasDictIn K E_3 = true)
    (tyE_3 : PySem.W.typeIn K (.ref E_3) = some (.type "type"))
    (exE_3 : PySem.W.subIn K (.ref E_3) (.type "BaseException") = some true)
    (kpE_3 : PySem.W.keepIn K (.ref E_3) = true)
    (aE_4 : PySem.W.nsIn K mainGlobals "TableError" = some (some (.ref E_4)))
    (hdE_4 : PySem.W.hasDictIn K E_4 = true)
    (tyE_4 : PySem.W.typeIn K (.ref E_4) = some (.type "type"))
    (exE_4 : PySem.W.subIn K (.ref E_4) (.type "BaseException") = some true)
    (kpE_4 : PySem.W.keepIn K (.ref E_4) = true)
    (aE_5 : PySem.W.nsIn K mainGlobals "ActionError" = some (some (.ref E_5)))
    (hdE_5 : PySem.W.hasDictIn K E_5 = true)
    (tyE_5 : PySem.W.typeIn K (.ref E_5) = some (.type "type"))
    (exE_5 : PySem.W.subIn K (.ref E_5) (.type "BaseException") = some true)
    (kpE_5 : PySem.W.keepIn K (.ref E_5) = true)
    (aE_6 : PySem.W.nsIn K mainGlobals "LassoError" = some (some (.ref E_6)))
    (hdE_6 : PySem.W.hasDictIn K E_6 = true)
    (tyE_6 : PySem.W.typeIn K (.ref E_6) = some (.type "type"))
    (exE_6 : PySem.W.subIn K (.ref E_6) (.type "BaseException") = some true)
    (kpE_6 : PySem.W.keepIn K (.ref E_6) = true)
    (aE_7 : PySem.W.nsIn K mainGlobals "LetterError" = some (some (.ref E_7)))
    (hdE_7 : PySem.W.hasDictIn K E_7 = true)
    (tyE_7 : PySem.W.typeIn K (.ref E_7) = some (.type "type"))
    (exE_7 : PySem.W.subIn K (.ref E_7) (.type "BaseException") = some true)
    (kpE_7 : PySem.W.keepIn K (.ref E_7) = true)
    (aE_8 : PySem.W.nsIn K mainGlobals "StateError" = some (some (.ref E_8)))
    (hdE_8 : PySem.W.hasDictIn K E_8 = true)
    (tyE_8 : PySem.W.typeIn K (.ref E_8) = some (.type "type"))
    (exE_8 : PySem.W.subIn K (.ref E_8) (.type "BaseException") = some true)
    (kpE_8 : PySem.W.keepIn K (.ref E_8) = true)
    (aE_9 : PySem.W.nsIn K mainGlobals "RowError" = some (some (.ref E_9)))
    (hdE_9 : PySem.W.hasDictIn K E_9 = true)
    (tyE_9 : PySem.W.typeIn K (.ref E_9) = some (.type "type"))
    (exE_9 : PySem.W.subIn K (.ref E_9) (.type "BaseException") = some true)
    (kpE_9 : PySem.W.keepIn K (.ref E_9) = true)
    (aE_10 : PySem.W.nsIn K mainGlobals "NotStarFree" = some (some (.ref E_10)))
    (hdE_10 : PySem.W.hasDictIn K E_10 = true)
    (tyE_10 : PySem.W.typeIn K (.ref E_10) = some (.type "type"))
    (exE_10 : PySem.W.subIn K (.ref E_10) (.type "BaseException") = some true)
    (kpE_10 : PySem.W.keepIn K (.ref E_10) = true)
    (aE_11 : PySem.W.nsIn K mainGlobals "TextError" = some (some (.ref E_11)))
    (hdE_11 : PySem.W.hasDictIn K E_11 = true)
    (tyE_11 : PySem.W.typeIn K (.ref E_11) = some (.type "type"))
    (exE_11 : PySem.W.subIn K (.ref E_11) (.type "BaseException") = some true)
    (kpE_11 : PySem.W.keepIn K (.ref E_11) = true)
    (aE_12 : PySem.W.nsIn K mainGlobals "NameFault" = some (some (.ref E_12)))
    (hdE_12 : PySem.W.hasDictIn K E_12 = true)
    (tyE_12 : PySem.W.typeIn K (.ref E_12) = some (.type "type"))
    (exE_12 : PySem.W.subIn K (.ref E_12) (.type "BaseException") = some true)
    (kpE_12 : PySem.W.keepIn K (.ref E_12) = true)
    (aE_13 : PySem.W.nsIn K mainGlobals "LineError" = some (some (.ref E_13)))
    (hdE_13 : PySem.W.hasDictIn K E_13 = true)
    (tyE_13 : PySem.W.typeIn K (.ref E_13) = some (.type "type"))
    (exE_13 : PySem.W.subIn K (.ref E_13) (.type "BaseException") = some true)
    (kpE_13 : PySem.W.keepIn K (.ref E_13) = true)
    (aE_14 : PySem.W.nsIn K mainGlobals "CountsError" = some (some (.ref E_14)))
    (hdE_14 : PySem.W.hasDictIn K E_14 = true)
    (tyE_14 : PySem.W.typeIn K (.ref E_14) = some (.type "type"))
    (exE_14 : PySem.W.subIn K (.ref E_14) (.type "BaseException") = some true)
    (kpE_14 : PySem.W.keepIn K (.ref E_14) = true)
    (aE_15 : PySem.W.nsIn K mainGlobals "LimitError" = some (some (.ref E_15)))
    (hdE_15 : PySem.W.hasDictIn K E_15 = true)
    (tyE_15 : PySem.W.typeIn K (.ref E_15) = some (.type "type"))
    (exE_15 : PySem.W.subIn K (.ref E_15) (.type "BaseException") = some true)
    (kpE_15 : PySem.W.keepIn K (.ref E_15) = true)
    (aE_16 : PySem.W.nsIn K mainGlobals "TooManyStates" = some (some (.ref E_16)))
    (hdE_16 : PySem.W.hasDictIn K E_16 = true)
    (tyE_16 : PySem.W.typeIn K (.ref E_16) = some (.type "type"))
    (exE_16 : PySem.W.subIn K (.ref E_16) (.type "BaseException") = some true)
    (kpE_16 : PySem.W.keepIn K (.ref E_16) = true)
    (aE_17 : PySem.W.nsIn K mainGlobals "TooManyActions" = some (some (.ref E_17)))
    (hdE_17 : PySem.W.hasDictIn K E_17 = true)
    (tyE_17 : PySem.W.typeIn K (.ref E_17) = some (.type "type"))
    (exE_17 : PySem.W.subIn K (.ref E_17) (.type "BaseException") = some true)
    (kpE_17 : PySem.W.keepIn K (.ref E_17) = true)
    (aE_18 : PySem.W.nsIn K mainGlobals "TooManyRows" = some (some (.ref E_18)))
    (hdE_18 : PySem.W.hasDictIn K E_18 = true)
    (tyE_18 : PySem.W.typeIn K (.ref E_18) = some (.type "type"))
    (exE_18 : PySem.W.subIn K (.ref E_18) (.type "BaseException") = some true)
    (kpE_18 : PySem.W.keepIn K (.ref E_18) = true)
    (s_2_1 : PySem.W.subIn K (.ref E_2) (.ref E_1) = some true)
    (s_2_2 : PySem.W.subIn K (.ref E_2) (.ref E_2) = some true)
    (s_2_3 : PySem.W.subIn K (.ref E_2) (.ref E_3) = some false)
    (s_2_4 : PySem.W.subIn K (.ref E_2) (.ref E_4) = some false)
    (s_2_5 : PySem.W.subIn K (.ref E_2) (.ref E_5) = some false)
    (s_2_6 : PySem.W.subIn K (.ref E_2) (.ref E_6) = some false)
    (s_2_7 : PySem.W.subIn K (.ref E_2) (.ref E_7) = some false)
    (s_2_8 : PySem.W.subIn K (.ref E_2) (.ref E_8) = some false)
    (s_2_9 : PySem.W.subIn K (.ref E_2) (.ref E_9) = some false)
    (s_2_10 : PySem.W.subIn K (.ref E_2) (.ref E_10) = some false)
    (s_2_11 : PySem.W.subIn K (.ref E_2) (.ref E_11) = some false)
    (s_2_12 : PySem.W.subIn K (.ref E_2) (.ref E_12) = some false)
    (s_2_13 : PySem.W.subIn K (.ref E_2) (.ref E_13) = some false)
    (s_2_14 : PySem.W.subIn K (.ref E_2) (.ref E_14) = some false)
    (s_2_15 : PySem.W.subIn K (.ref E_2) (.ref E_15) = some false)
    (s_2_16 : PySem.W.subIn K (.ref E_2) (.ref E_16) = some false)
    (s_2_17 : PySem.W.subIn K (.ref E_2) (.ref E_17) = some false)
    (s_2_18 : PySem.W.subIn K (.ref E_2) (.ref E_18) = some false)
    (sv_2 : PySem.W.subIn K (.ref E_2) (.type "ValueError") = some true)
    (ga_2 : PySem.W.findIn K (.ref E_2) "__getattribute__" = some (some (.builtin "BaseException.__getattribute__")))
    (gg_2 : PySem.W.findIn K (.ref E_2) "__getattr__" = some none)
    (gc_2 : PySem.W.findIn K (.ref E_2) "__class__" = some (some (.builtin "object.__class__")))
    (mo_2 : PySem.W.mroIn K E_2 (.type "object") = some true)
    (s_7_1 : PySem.W.subIn K (.ref E_7) (.ref E_1) = some true)
    (s_7_2 : PySem.W.subIn K (.ref E_7) (.ref E_2) = some false)
    (s_7_3 : PySem.W.subIn K (.ref E_7) (.ref E_3) = some false)
    (s_7_4 : PySem.W.subIn K (.ref E_7) (.ref E_4) = some false)
    (s_7_5 : PySem.W.subIn K (.ref E_7) (.ref E_5) = some false)
    (s_7_6 : PySem.W.subIn K (.ref E_7) (.ref E_6) = some false)
    (s_7_7 : PySem.W.subIn K (.ref E_7) (.ref E_7) = some true)
    (s_7_8 : PySem.W.subIn K (.ref E_7) (.ref E_8) = some false)
    (s_7_9 : PySem.W.subIn K (.ref E_7) (.ref E_9) = some false)
    (s_7_10 : PySem.W.subIn K (.ref E_7) (.ref E_10) = some false)
    (s_7_11 : PySem.W.subIn K (.ref E_7) (.ref E_11) = some false)
    (s_7_12 : PySem.W.subIn K (.ref E_7) (.ref E_12) = some false)
    (s_7_13 : PySem.W.subIn K (.ref E_7) (.ref E_13) = some false)
    (s_7_14 : PySem.W.subIn K (.ref E_7) (.ref E_14) = some false)
    (s_7_15 : PySem.W.subIn K (.ref E_7) (.ref E_15) = some false)
    (s_7_16 : PySem.W.subIn K (.ref E_7) (.ref E_16) = some false)
    (s_7_17 : PySem.W.subIn K (.ref E_7) (.ref E_17) = some false)
    (s_7_18 : PySem.W.subIn K (.ref E_7) (.ref E_18) = some false)
    (sv_7 : PySem.W.subIn K (.ref E_7) (.type "ValueError") = some true)
    (ga_7 : PySem.W.findIn K (.ref E_7) "__getattribute__" = some (some (.builtin "BaseException.__getattribute__")))
    (gg_7 : PySem.W.findIn K (.ref E_7) "__getattr__" = some none)
    (gc_7 : PySem.W.findIn K (.ref E_7) "__class__" = some (some (.builtin "object.__class__")))
    (mo_7 : PySem.W.mroIn K E_7 (.type "object") = some true)
    (s_8_1 : PySem.W.subIn K (.ref E_8) (.ref E_1) = some true)
    (s_8_2 : PySem.W.subIn K (.ref E_8) (.ref E_2) = some false)
    (s_8_3 : PySem.W.subIn K (.ref E_8) (.ref E_3) = some false)
    (s_8_4 : PySem.W.subIn K (.ref E_8) (.ref E_4) = some false)
    (s_8_5 : PySem.W.subIn K (.ref E_8) (.ref E_5) = some false)
    (s_8_6 : PySem.W.subIn K (.ref E_8) (.ref E_6) = some false)
    (s_8_7 : PySem.W.subIn K (.ref E_8) (.ref E_7) = some false)
    (s_8_8 : PySem.W.subIn K (.ref E_8) (.ref E_8) = some true)
    (s_8_9 : PySem.W.subIn K (.ref E_8) (.ref E_9) = some false)
    (s_8_10 : PySem.W.subIn K (.ref E_8) (.ref E_10) = some false)
    (s_8_11 : PySem.W.subIn K (.ref E_8) (.ref E_11) = some false)
    (s_8_12 : PySem.W.subIn K (.ref E_8) (.ref E_12) = some false)
    (s_8_13 : PySem.W.subIn K (.ref E_8) (.ref E_13) = some false)
    (s_8_14 : PySem.W.subIn K (.ref E_8) (.ref E_14) = some false)
    (s_8_15 : PySem.W.subIn K (.ref E_8) (.ref E_15) = some false)
    (s_8_16 : PySem.W.subIn K (.ref E_8) (.ref E_16) = some false)
    (s_8_17 : PySem.W.subIn K (.ref E_8) (.ref E_17) = some false)
    (s_8_18 : PySem.W.subIn K (.ref E_8) (.ref E_18) = some false)
    (sv_8 : PySem.W.subIn K (.ref E_8) (.type "ValueError") = some true)
    (ga_8 : PySem.W.findIn K (.ref E_8) "__getattribute__" = some (some (.builtin "BaseException.__getattribute__")))
    (gg_8 : PySem.W.findIn K (.ref E_8) "__getattr__" = some none)
    (gc_8 : PySem.W.findIn K (.ref E_8) "__class__" = some (some (.builtin "object.__class__")))
    (mo_8 : PySem.W.mroIn K E_8 (.type "object") = some true)
    (s_15_1 : PySem.W.subIn K (.ref E_15) (.ref E_1) = some true)
    (s_15_2 : PySem.W.subIn K (.ref E_15) (.ref E_2) = some false)
    (s_15_3 : PySem.W.subIn K (.ref E_15) (.ref E_3) = some false)
    (s_15_4 : PySem.W.subIn K (.ref E_15) (.ref E_4) = some false)
    (s_15_5 : PySem.W.subIn K (.ref E_15) (.ref E_5) = some false)
    (s_15_6 : PySem.W.subIn K (.ref E_15) (.ref E_6) = some false)
    (s_15_7 : PySem.W.subIn K (.ref E_15) (.ref E_7) = some false)
    (s_15_8 : PySem.W.subIn K (.ref E_15) (.ref E_8) = some false)
    (s_15_9 : PySem.W.subIn K (.ref E_15) (.ref E_9) = some false)
    (s_15_10 : PySem.W.subIn K (.ref E_15) (.ref E_10) = some false)
    (s_15_11 : PySem.W.subIn K (.ref E_15) (.ref E_11) = some false)
    (s_15_12 : PySem.W.subIn K (.ref E_15) (.ref E_12) = some false)
    (s_15_13 : PySem.W.subIn K (.ref E_15) (.ref E_13) = some false)
    (s_15_14 : PySem.W.subIn K (.ref E_15) (.ref E_14) = some false)
    (s_15_15 : PySem.W.subIn K (.ref E_15) (.ref E_15) = some true)
    (s_15_16 : PySem.W.subIn K (.ref E_15) (.ref E_16) = some false)
    (s_15_17 : PySem.W.subIn K (.ref E_15) (.ref E_17) = some false)
    (s_15_18 : PySem.W.subIn K (.ref E_15) (.ref E_18) = some false)
    (sv_15 : PySem.W.subIn K (.ref E_15) (.type "ValueError") = some true)
    (ga_15 : PySem.W.findIn K (.ref E_15) "__getattribute__" = some (some (.builtin "BaseException.__getattribute__")))
    (gg_15 : PySem.W.findIn K (.ref E_15) "__getattr__" = some none)
    (gc_15 : PySem.W.findIn K (.ref E_15) "__class__" = some (some (.builtin "object.__class__")))
    (mo_15 : PySem.W.mroIn K E_15 (.type "object") = some true)
    (gsC : PySem.W.specialIn K (.builtin "object.__class__") "__get__" = some (some (.builtin "getset_descriptor.__get__")))
    (tkC : PySem.W.takesIn K (.builtin "object.__class__") = some true)
    (xL_7 : K.lookup E_7 = some (excClassObj nm_7 q_7 E_7 N_7 bs_7 bm_7 true sn_7 sub_7 ab_7 col_7 dd_7 k0_7 k1_7 k2_7 k3_7 k5_7 "ValueError.__new__"))
    (rv_7 : HandSPX.refsVE bm_7 = true)
    (xsa_7 : PySem.W.findIn K (.ref E_7) "__setattr__" = some (some (.builtin "object.__setattr__")))
    (xno_7 : PySem.W.findIn K (.ref E_7) "index" = some none)
    (xi_7 : PySem.W.findIn K (.ref E_7) "__init__" = some (some (.ref I_7)))
    (xt_7 : PySem.W.typeIn K (.ref I_7) = some (.type "function"))
    (xl_7 : K.lookup I_7 = some ⟨xoc_7, xd_7, .func (PySem.W.ksFn "__init__" qu_7 (PySem.XM.xA "index" r1_7 r2_7) (PySem.XM.xB "index" ms_7 j_7 p0_7 p1_7 p2_7 p3_7 p4_7 p5_7 q1_7 q2_7 q3_7 q4_7) (PySem.XM.xS "index") .none .none xdoc_7 xpm_7 xa_7 (.ref cda_7) xct_7 cc_7), xsl_7⟩)
    (xco_7 : PySem.W.codeIn K (.ref cda_7) qu_7 = true)
    (xpe_7 : (p2_7.endLine == p4_7.line) = true)
    (xcd_7 : K.lookup cda_7 = some ⟨ccl_7, cdd_7, .fields vs_7, ccs_7⟩)
    (xv2_7 : vs_7[2]? = some (.str fi_7 tf_7))
    (xfi_7 : ((l.prog.main.file : Str) == fi_7) = true)
    (xce_7 : K.lookup cc_7 = some ⟨cl_7, cld_7, .cell (some (.ref E_7)), csl_7⟩)
    (xci_7 : PySem.W.clsIn K E_7 = some cdD_7)
    (xmr_7 : PySem.W.mroIn K E_7 (.ref E_7) = some true)
    (xsu_7 : PySem.W.ks_superIn K E_7 E_7 "__init__" = some (some (.builtin "ValueError.__init__")))
    (xL_8 : K.lookup E_8 = some (excClassObj nm_8 q_8 E_8 N_8 bs_8 bm_8 true sn_8 sub_8 ab_8 col_8 dd_8 k0_8 k1_8 k2_8 k3_8 k5_8 "ValueError.__new__"))
    (rv_8 : HandSPX.refsVE bm_8 = true)
    (xsa_8 : PySem.W.findIn K (.ref E_8) "__setattr__" = some (some (.builtin "object.__setattr__")))
    (xno_8 : PySem.W.findIn K (.ref E_8) "state" = some none)
    (xi_8 : PySem.W.findIn K (.ref E_8) "__init__" = some (some (.ref I_8)))
    (xt_8 : PySem.W.typeIn K (.ref I_8) = some (.type "function"))
    (xl_8 : K.lookup I_8 = some ⟨xoc_8, xd_8, .func (PySem.W.ksFn "__init__" qu_8 (PySem.XM.xA "state" r1_8 r2_8) (PySem.XM.xB "state" ms_8 j_8 p0_8 p1_8 p2_8 p3_8 p4_8 p5_8 q1_8 q2_8 q3_8 q4_8) (PySem.XM.xS "state") .none .none xdoc_8 xpm_8 xa_8 (.ref cda_8) xct_8 cc_8), xsl_8⟩)
    (xco_8 : PySem.W.codeIn K (.ref cda_8) qu_8 = true)
    (xpe_8 : (p2_8.endLine == p4_8.line) = true)
    (xcd_8 : K.lookup cda_8 = some ⟨ccl_8, cdd_8, .fields vs_8, ccs_8⟩)
    (xv2_8 : vs_8[2]? = some (.str fi_8 tf_8))
    (xfi_8 : ((l.prog.main.file : Str) == fi_8) = true)
    (xce_8 : K.lookup cc_8 = some ⟨cl_8, cld_8, .cell (some (.ref E_8)), csl_8⟩)
    (xci_8 : PySem.W.clsIn K E_8 = some cdD_8)
    (xmr_8 : PySem.W.mroIn K E_8 (.ref E_8) = some true)
    (xsu_8 : PySem.W.ks_superIn K E_8 E_8 "__init__" = some (some (.builtin "ValueError.__init__")))
    (xL_15 : K.lookup E_15 = some (excClassObj nm_15 q_15 E_15 N_15 bs_15 bm_15 true sn_15 sub_15 ab_15 col_15 dd_15 k0_15 k1_15 k2_15 k3_15 k5_15 "ValueError.__new__"))
    (rv_15 : HandSPX.refsVE bm_15 = true)
    (xsa_15 : PySem.W.findIn K (.ref E_15) "__setattr__" = some (some (.builtin "object.__setattr__")))
    (xno_15 : PySem.W.findIn K (.ref E_15) "limit" = some none)
    (xi_15 : PySem.W.findIn K (.ref E_15) "__init__" = some (some (.ref I_15)))
    (xt_15 : PySem.W.typeIn K (.ref I_15) = some (.type "function"))
    (xl_15 : K.lookup I_15 = some ⟨xoc_15, xd_15, .func (PySem.W.ksFn "__init__" qu_15 (PySem.XM.xA "limit" r1_15 r2_15) (PySem.XM.xB "limit" ms_15 j_15 p0_15 p1_15 p2_15 p3_15 p4_15 p5_15 q1_15 q2_15 q3_15 q4_15) (PySem.XM.xS "limit") .none .none xdoc_15 xpm_15 xa_15 (.ref cda_15) xct_15 cc_15), xsl_15⟩)
    (xco_15 : PySem.W.codeIn K (.ref cda_15) qu_15 = true)
    (xpe_15 : (p2_15.endLine == p4_15.line) = true)
    (xcd_15 : K.lookup cda_15 = some ⟨ccl_15, cdd_15, .fields vs_15, ccs_15⟩)
    (xv2_15 : vs_15[2]? = some (.str fi_15 tf_15))
    (xfi_15 : ((l.prog.main.file : Str) == fi_15) = true)
    (xce_15 : K.lookup cc_15 = some ⟨cl_15, cld_15, .cell (some (.ref E_15)), csl_15⟩)
    (xci_15 : PySem.W.clsIn K E_15 = some cdD_15)
    (xmr_15 : PySem.W.mroIn K E_15 (.ref E_15) = some true)
    (xsu_15 : PySem.W.ks_superIn K E_15 E_15 "__init__" = some (some (.builtin "ValueError.__init__")))
    (xthi : PySem.W.nsIn K cStatics "thirdparty.any" = some none)
    (xtop : (l.prog.main.scope.names.lookup ("super" : Str)).isSome = false)
    (xq_2 : PySem.W.excIn K E_2 [.type "ValueError", .type "Exception", .type "BaseException", .type "object"] "ValueError.__new__" = true)
    (rdG : PySem.W.readsIn K C_G (.type "type") = true)
    (gaG : PySem.W.specialIn K (.ref C_G) "__getattribute__" = some (some (.builtin "type.__getattribute__")))
    (cvG : PySem.W.findCls K (.ref C_G) (.type "type") "MOST_ROUNDS" = some (.val uvG))
    (rlG : RelV (.int 3) uvG)
    : ∃ fd : FuncData, (∀ (s : Shared) (v : Value), BindsTo s fd ⟨[v], []⟩ [("script", v)]) ∧ ∀ base : Heap, K.In base → base.Ns mainGlobals mg → FnOk l.prog w K mg base CX0 10 fa fd ["script"] (spLaw K) := by
  have e := hfa.symm.trans (PySem.W.mg_of X G a_law)
  cases e
  have F_letter_at := fun_mk (st := sLetter_at) l_letter_at c_letter_at k_letter_at
  have b_letter_at := F_letter_at.binds (ps := ["word", "place"]) fun _ _ _ _ _ _ us hl => match us, hl with | [_, _], _ => rfl
  have m_letter_at := PySem.W.mg_of X G a_letter_at
  have F_plain := fun_mk (st := sPlain) l_plain c_plain k_plain
  have b_plain := F_plain.binds (ps := ["word", "places"]) fun _ _ _ _ _ _ us hl => match us, hl with | [_, _], _ => rfl
  have m_plain := PySem.W.mg_of X G a_plain
  have F_kind := fun_mk (st := sKindN) l_kind c_kind k_kind
  have b_kind := F_kind.binds (ps := ["word", "places", "rounds", "numbers"]) fun _ _ _ _ _ _ us hl => match us, hl with | [_, _, _, _], _ => rfl
  have m_kind := PySem.W.mg_of X G a_kind
  have F_checkL := fun_mk (st := sCheckL) l_checkL c_checkL k_checkL
  have b_checkL := F_checkL.binds (ps := ["letters"]) fun _ _ _ _ _ _ us hl => match us, hl with | [_], _ => rfl
  have m_checkL := PySem.W.mg_of X G a_checkL
  have F_checkW := fun_mk (st := sCheckW) l_checkW c_checkW k_checkW
  have b_checkW := F_checkW.binds (ps := ["word", "letters"]) fun _ _ _ _ _ _ us hl => match us, hl with | [_, _], _ => rfl
  have m_checkW := PySem.W.mg_of X G a_checkW
  have F_checkP := fun_mk (st := sCheck_place) l_checkP c_checkP k_checkP
  have b_checkP := F_checkP.binds (ps := ["place", "word"]) fun _ _ _ _ _ _ us hl => match us, hl with | [_, _], _ => rfl
  have m_checkP := PySem.W.mg_of X G a_checkP
  have F_init := fun_mk (st := sInit) l_init c_init k_init
  have b_init := F_init.binds (ps := ["self", "letters", "one", "other", "rounds"]) fun _ _ _ _ _ _ us hl => match us, hl with | [_, _, _, _, _], _ => rfl
  have me_init : Meth K C_G "__init__" f_init := ⟨a_init, i_init, k_init⟩
  have F_len := fun_mk (st := sLenG) l_len c_len k_len
  have b_len := F_len.binds (ps := ["self"]) fun _ _ _ _ _ _ us hl => match us, hl with | [_], _ => rfl
  have me_len : Meth K C_G "__len__" f_len := ⟨a_len, i_len, k_len⟩
  have F_choice := fun_mk (st := sChoice) l_choice c_choice k_choice
  have b_choice := F_choice.binds (ps := ["self", "side", "place"]) fun _ _ _ _ _ _ us hl => match us, hl with | [_, _, _], _ => rfl
  have me_choice : Meth K C_G "check_choice" f_choice := ⟨a_choice, i_choice, k_choice⟩
  have F_play := fun_mk (st := sPlay) l_play c_play k_play
  have b_play := F_play.binds (ps := ["self", "side", "place", "answer"]) fun _ _ _ _ _ _ us hl => match us, hl with | [_, _, _, _], _ => rfl
  have me_play : Meth K C_G "play" f_play := ⟨a_play, i_play, k_play⟩
  have F_back := fun_mk (st := sBack) l_back c_back k_back
  have b_back := F_back.binds (ps := ["self"]) fun _ _ _ _ _ _ us hl => match us, hl with | [_], _ => rfl
  have me_back : Meth K C_G "back" f_back := ⟨a_back, i_back, k_back⟩
  have F_wins := fun_mk (st := sWins) l_wins c_wins k_wins
  have b_wins := F_wins.binds (ps := ["self"]) fun _ _ _ _ _ _ us hl => match us, hl with | [_], _ => rfl
  have me_wins : Meth K C_G "wins" f_wins := ⟨a_wins, i_wins, k_wins⟩
  have F_kinds := fun_mk (st := sKinds) l_kinds c_kinds k_kinds
  have b_kinds := F_kinds.binds (ps := ["self", "side", "numbers"]) fun _ _ _ _ _ _ us hl => match us, hl with | [_, _, _], _ => rfl
  have me_kinds : Meth K C_G "kinds" f_kinds := ⟨a_kinds, i_kinds, k_kinds⟩
  have F_reply := fun_mk (st := sReply) l_reply c_reply k_reply
  have b_reply := F_reply.binds (ps := ["self", "side", "place"]) fun _ _ _ _ _ _ us hl => match us, hl with | [_, _, _], _ => rfl
  have me_reply : Meth K C_G "reply" f_reply := ⟨a_reply, i_reply, k_reply⟩
  have F_attack := fun_mk (st := sAttack) l_attack c_attack k_attack
  have b_attack := F_attack.binds (ps := ["self"]) fun _ _ _ _ _ _ us hl => match us, hl with | [_], _ => rfl
  have me_attack : Meth K C_G "attack" f_attack := ⟨a_attack, i_attack, k_attack⟩
  have F_new := fun_mk (st := sNew) l_new c_new k_new
  have b_new := F_new.binds (ps := ["script"]) fun _ _ _ _ _ _ us hl => match us, hl with | [_], _ => rfl
  have m_new := PySem.W.mg_of X G a_new
  have F_draw := fun_mk (st := sDraw) l_draw c_draw k_draw
  have b_draw := F_draw.binds (ps := ["state", "many"]) fun _ _ _ _ _ _ us hl => match us, hl with | [_, _], _ => rfl
  have m_draw := PySem.W.mg_of X G a_draw
  have F_same := fun_mk (st := sSame) l_same c_same k_same
  have b_same := F_same.binds (ps := ["actual", "expected"]) fun _ _ _ _ _ _ us hl => match us, hl with | [_, _], _ => rfl
  have m_same := PySem.W.mg_of X G a_same
  have F_letters := fun_mk (st := sLetters) l_letters c_letters k_letters
  have b_letters := F_letters.binds (ps := ["state", "most"]) fun _ _ _ _ _ _ us hl => match us, hl with | [_, _], _ => rfl
  have m_letters := PySem.W.mg_of X G a_letters
  have F_word := fun_mk (st := sWord) l_word c_word k_word
  have b_word := F_word.binds (ps := ["state", "letters", "most"]) fun _ _ _ _ _ _ us hl => match us, hl with | [_, _, _], _ => rfl
  have m_word := PySem.W.mg_of X G a_word
  have F_classes := fun_mk (st := sClasses) l_classes c_classes k_classes
  have b_classes := F_classes.binds (ps := ["e"]) fun _ _ _ _ _ _ us hl => match us, hl with | [_], _ => rfl
  have m_classes := PySem.W.mg_of X G a_classes
  have F_stranger := fun_mk (st := sStranger) l_stranger c_stranger k_stranger
  have b_stranger := F_stranger.binds (ps := ["state", "letters"]) fun _ _ _ _ _ _ us hl => match us, hl with | [_, _], _ => rfl
  have m_stranger := PySem.W.mg_of X G a_stranger
  have F_lplain := fun_mk (st := sLPlain) l_lplain c_lplain k_lplain
  have b_lplain := F_lplain.binds (ps := ["word", "places"]) fun _ _ _ _ _ _ us hl => match us, hl with | [_, _], _ => rfl
  have m_lplain := PySem.W.mg_of X G a_lplain
  have F_lkind := fun_mk (st := sLKind) l_lkind c_lkind k_lkind
  have b_lkind := F_lkind.binds (ps := ["word", "places", "rounds", "known"]) fun _ _ _ _ _ _ us hl => match us, hl with | [_, _, _, _], _ => rfl
  have m_lkind := PySem.W.mg_of X G a_lkind
  have F_chosen := fun_mk (st := sChosen) l_chosen c_chosen k_chosen
  have b_chosen := F_chosen.binds (ps := ["pairs", "side"]) fun _ _ _ _ _ _ us hl => match us, hl with | [_, _], _ => rfl
  have m_chosen := PySem.W.mg_of X G a_chosen
  have F_lwins := fun_mk (st := sLWins) l_lwins c_lwins k_lwins
  have b_lwins := F_lwins.binds (ps := ["words", "pairs", "left"]) fun _ _ _ _ _ _ us hl => match us, hl with | [_, _, _], _ => rfl
  have m_lwins := PySem.W.mg_of X G a_lwins
  have F_lreply := fun_mk (st := sLReply) l_lreply c_lreply k_lreply
  have b_lreply := F_lreply.binds (ps := ["words", "pairs", "left", "side", "place"]) fun _ _ _ _ _ _ us hl => match us, hl with | [_, _, _, _, _], _ => rfl
  have m_lreply := PySem.W.mg_of X G a_lreply
  have F_lattack := fun_mk (st := sLAttack) l_lattack c_lattack k_lattack
  have b_lattack := F_lattack.binds (ps := ["words", "pairs", "left"]) fun _ _ _ _ _ _ us hl => match us, hl with | [_, _, _], _ => rfl
  have m_lattack := PySem.W.mg_of X G a_lattack
  have F_fault := fun_mk (st := sFault) l_fault c_fault k_fault
  have b_fault := F_fault.binds (ps := ["words", "left", "rounds", "side", "place"]) fun _ _ _ _ _ _ us hl => match us, hl with | [_, _, _, _, _], _ => rfl
  have m_fault := PySem.W.mg_of X G a_fault
  have F_played := fun_mk (st := sPlayed) l_played c_played k_played
  have b_played := F_played.binds (ps := ["game", "side", "place", "answer"]) fun _ _ _ _ _ _ us hl => match us, hl with | [_, _, _, _], _ => rfl
  have m_played := PySem.W.mg_of X G a_played
  have F_replied := fun_mk (st := sReplied) l_replied c_replied k_replied
  have b_replied := F_replied.binds (ps := ["game", "side", "place"]) fun _ _ _ _ _ _ us hl => match us, hl with | [_, _, _], _ => rfl
  have m_replied := PySem.W.mg_of X G a_replied
  have F_begun := fun_mk (st := sBegun) l_begun c_begun k_begun
  have b_begun := F_begun.binds (ps := ["letters", "one", "other", "rounds"]) fun _ _ _ _ _ _ us hl => match us, hl with | [_, _, _, _], _ => rfl
  have m_begun := PySem.W.mg_of X G a_begun
  have F_stands := fun_mk (st := sStands) l_stands c_stands k_stands
  have b_stands := F_stands.binds (ps := ["game", "words", "pairs", "rounds"]) fun _ _ _ _ _ _ us hl => match us, hl with | [_, _, _, _], _ => rfl
  have m_stands := PySem.W.mg_of X G a_stands
  have F_deed := fun_mk (st := sDeed) l_deed c_deed k_deed
  have b_deed := F_deed.binds (ps := ["state", "game", "words", "pairs", "rounds"]) fun _ _ _ _ _ _ us hl => match us, hl with | [_, _, _, _, _], _ => rfl
  have m_deed := PySem.W.mg_of X G a_deed
  have F_refusals := fun_mk (st := sRefusals) l_refusals c_refusals k_refusals
  have b_refusals := F_refusals.binds (ps := ["state", "letters", "one", "other"]) fun _ _ _ _ _ _ us hl => match us, hl with | [_, _, _, _], _ => rfl
  have m_refusals := PySem.W.mg_of X G a_refusals
  have F_law := fun_mk (st := sLaw) l_law c_law k_law
  have mC_G := PySem.W.mg_of X G aC_G
  have cl_G : Cls K C_G := ⟨pg_G, hd_G, po_G, sa_G⟩
  have M_G : Mk K C_G f_init := ⟨mk_G, a_init, i_init, kc_G⟩
  have mg_ML := PySem.W.mg_of X G g_ML
  have mg_SM := PySem.W.mg_of X G g_SM
  have con_G_MOST_ROUNDS : ∃ u, Con K C_G "MOST_ROUNDS" (.int 3) u := ⟨_, co_G_MOST_ROUNDS, ⟨_, rfl⟩, cg_G_MOST_ROUNDS, by decide⟩
  have o_len := PySem.W.mg_none_of X G z_len
  have o_int := PySem.W.mg_none_of X G z_int
  have o_range := PySem.W.mg_none_of X G z_range
  have o_tuple := PySem.W.mg_none_of X G z_tuple
  have o_set := PySem.W.mg_none_of X G z_set
  have o_sorted := PySem.W.mg_none_of X G z_sorted
  have o_enumerate := PySem.W.mg_none_of X G z_enumerate
  have o_max := PySem.W.mg_none_of X G z_max
  have o_min := PySem.W.mg_none_of X G z_min
  have o_list := PySem.W.mg_none_of X G z_list
  have o_isinstance := PySem.W.mg_none_of X G z_isinstance
  have o_bool := PySem.W.mg_none_of X G z_bool
  have o_str := PySem.W.mg_none_of X G z_str
  have o_super := PySem.W.mg_none_of X G z_super
  have o_ValueError := PySem.W.mg_none_of X G z_ValueError
  have mE_1 := PySem.W.mg_of X G aE_1
  have mE_2 := PySem.W.mg_of X G aE_2
  have mE_3 := PySem.W.mg_of X G aE_3
  have mE_4 := PySem.W.mg_of X G aE_4
  have mE_5 := PySem.W.mg_of X G aE_5
  have mE_6 := PySem.W.mg_of X G aE_6
  have mE_7 := PySem.W.mg_of X G aE_7
  have mE_8 := PySem.W.mg_of X G aE_8
  have mE_9 := PySem.W.mg_of X G aE_9
  have mE_10 := PySem.W.mg_of X G aE_10
  have mE_11 := PySem.W.mg_of X G aE_11
  have mE_12 := PySem.W.mg_of X G aE_12
  have mE_13 := PySem.W.mg_of X G aE_13
  have mE_14 := PySem.W.mg_of X G aE_14
  have mE_15 := PySem.W.mg_of X G aE_15
  have mE_16 := PySem.W.mg_of X G aE_16
  have mE_17 := PySem.W.mg_of X G aE_17
  have mE_18 := PySem.W.mg_of X G aE_18
  have xc_2 : ExcC K E_2 := ⟨ga_2, gg_2, exE_2, hdE_2, gc_2, gsC, tkC, mo_2⟩
  have xf_2 : XfC K E_2 := ⟨ga_2, gg_2, exE_2, hdE_2⟩
  have kv_2 := kit_ve sv_2
  have kt_2_1 := kit_ref hdE_1 tyE_1 s_2_1 s_2_2
  have kt_2_2 := kit_ref hdE_2 tyE_2 s_2_2 s_2_2
  have kt_2_3 := kit_ref hdE_3 tyE_3 s_2_3 s_2_2
  have kt_2_4 := kit_ref hdE_4 tyE_4 s_2_4 s_2_2
  have kt_2_5 := kit_ref hdE_5 tyE_5 s_2_5 s_2_2
  have kt_2_6 := kit_ref hdE_6 tyE_6 s_2_6 s_2_2
  have kt_2_7 := kit_ref hdE_7 tyE_7 s_2_7 s_2_2
  have kt_2_8 := kit_ref hdE_8 tyE_8 s_2_8 s_2_2
  have kt_2_9 := kit_ref hdE_9 tyE_9 s_2_9 s_2_2
  have kt_2_10 := kit_ref hdE_10 tyE_10 s_2_10 s_2_2
  have kt_2_11 := kit_ref hdE_11 tyE_11 s_2_11 s_2_2
  have kt_2_12 := kit_ref hdE_12 tyE_12 s_2_12 s_2_2
  have kt_2_13 := kit_ref hdE_13 tyE_13 s_2_13 s_2_2
  have kt_2_14 := kit_ref hdE_14 tyE_14 s_2_14 s_2_2
  have kt_2_15 := kit_ref hdE_15 tyE_15 s_2_15 s_2_2
  have kt_2_16 := kit_ref hdE_16 tyE_16 s_2_16 s_2_2
  have kt_2_17 := kit_ref hdE_17 tyE_17 s_2_17 s_2_2
  have kt_2_18 := kit_ref hdE_18 tyE_18 s_2_18 s_2_2
  have xc_7 : ExcC K E_7 := ⟨ga_7, gg_7, exE_7, hdE_7, gc_7, gsC, tkC, mo_7⟩
  have xf_7 : XfC K E_7 := ⟨ga_7, gg_7, exE_7, hdE_7⟩
  have kv_7 := kit_ve sv_7
  have kt_7_1 := kit_ref hdE_1 tyE_1 s_7_1 s_7_7
  have kt_7_2 := kit_ref hdE_2 tyE_2 s_7_2 s_7_7
  have kt_7_3 := kit_ref hdE_3 tyE_3 s_7_3 s_7_7
  have kt_7_4 := kit_ref hdE_4 tyE_4 s_7_4 s_7_7
  have kt_7_5 := kit_ref hdE_5 tyE_5 s_7_5 s_7_7
  have kt_7_6 := kit_ref hdE_6 tyE_6 s_7_6 s_7_7
  have kt_7_7 := kit_ref hdE_7 tyE_7 s_7_7 s_7_7
  have kt_7_8 := kit_ref hdE_8 tyE_8 s_7_8 s_7_7
  have kt_7_9 := kit_ref hdE_9 tyE_9 s_7_9 s_7_7
  have kt_7_10 := kit_ref hdE_10 tyE_10 s_7_10 s_7_7
  have kt_7_11 := kit_ref hdE_11 tyE_11 s_7_11 s_7_7
  have kt_7_12 := kit_ref hdE_12 tyE_12 s_7_12 s_7_7
  have kt_7_13 := kit_ref hdE_13 tyE_13 s_7_13 s_7_7
  have kt_7_14 := kit_ref hdE_14 tyE_14 s_7_14 s_7_7
  have kt_7_15 := kit_ref hdE_15 tyE_15 s_7_15 s_7_7
  have kt_7_16 := kit_ref hdE_16 tyE_16 s_7_16 s_7_7
  have kt_7_17 := kit_ref hdE_17 tyE_17 s_7_17 s_7_7
  have kt_7_18 := kit_ref hdE_18 tyE_18 s_7_18 s_7_7
  have xc_8 : ExcC K E_8 := ⟨ga_8, gg_8, exE_8, hdE_8, gc_8, gsC, tkC, mo_8⟩
  have xf_8 : XfC K E_8 := ⟨ga_8, gg_8, exE_8, hdE_8⟩
  have kv_8 := kit_ve sv_8
  have kt_8_1 := kit_ref hdE_1 tyE_1 s_8_1 s_8_8
  have kt_8_2 := kit_ref hdE_2 tyE_2 s_8_2 s_8_8
  have kt_8_3 := kit_ref hdE_3 tyE_3 s_8_3 s_8_8
  have kt_8_4 := kit_ref hdE_4 tyE_4 s_8_4 s_8_8
  have kt_8_5 := kit_ref hdE_5 tyE_5 s_8_5 s_8_8
  have kt_8_6 := kit_ref hdE_6 tyE_6 s_8_6 s_8_8
  have kt_8_7 := kit_ref hdE_7 tyE_7 s_8_7 s_8_8
  have kt_8_8 := kit_ref hdE_8 tyE_8 s_8_8 s_8_8
  have kt_8_9 := kit_ref hdE_9 tyE_9 s_8_9 s_8_8
  have kt_8_10 := kit_ref hdE_10 tyE_10 s_8_10 s_8_8
  have kt_8_11 := kit_ref hdE_11 tyE_11 s_8_11 s_8_8
  have kt_8_12 := kit_ref hdE_12 tyE_12 s_8_12 s_8_8
  have kt_8_13 := kit_ref hdE_13 tyE_13 s_8_13 s_8_8
  have kt_8_14 := kit_ref hdE_14 tyE_14 s_8_14 s_8_8
  have kt_8_15 := kit_ref hdE_15 tyE_15 s_8_15 s_8_8
  have kt_8_16 := kit_ref hdE_16 tyE_16 s_8_16 s_8_8
  have kt_8_17 := kit_ref hdE_17 tyE_17 s_8_17 s_8_8
  have kt_8_18 := kit_ref hdE_18 tyE_18 s_8_18 s_8_8
  have xc_15 : ExcC K E_15 := ⟨ga_15, gg_15, exE_15, hdE_15, gc_15, gsC, tkC, mo_15⟩
  have xf_15 : XfC K E_15 := ⟨ga_15, gg_15, exE_15, hdE_15⟩
  have kv_15 := kit_ve sv_15
  have kt_15_1 := kit_ref hdE_1 tyE_1 s_15_1 s_15_15
  have kt_15_2 := kit_ref hdE_2 tyE_2 s_15_2 s_15_15
  have kt_15_3 := kit_ref hdE_3 tyE_3 s_15_3 s_15_15
  have kt_15_4 := kit_ref hdE_4 tyE_4 s_15_4 s_15_15
  have kt_15_5 := kit_ref hdE_5 tyE_5 s_15_5 s_15_15
  have kt_15_6 := kit_ref hdE_6 tyE_6 s_15_6 s_15_15
  have kt_15_7 := kit_ref hdE_7 tyE_7 s_15_7 s_15_15
  have kt_15_8 := kit_ref hdE_8 tyE_8 s_15_8 s_15_15
  have kt_15_9 := kit_ref hdE_9 tyE_9 s_15_9 s_15_15
  have kt_15_10 := kit_ref hdE_10 tyE_10 s_15_10 s_15_15
  have kt_15_11 := kit_ref hdE_11 tyE_11 s_15_11 s_15_15
  have kt_15_12 := kit_ref hdE_12 tyE_12 s_15_12 s_15_15
  have kt_15_13 := kit_ref hdE_13 tyE_13 s_15_13 s_15_15
  have kt_15_14 := kit_ref hdE_14 tyE_14 s_15_14 s_15_15
  have kt_15_15 := kit_ref hdE_15 tyE_15 s_15_15 s_15_15
  have kt_15_16 := kit_ref hdE_16 tyE_16 s_15_16 s_15_15
  have kt_15_17 := kit_ref hdE_17 tyE_17 s_15_17 s_15_15
  have kt_15_18 := kit_ref hdE_18 tyE_18 s_15_18 s_15_15
  have xm_7 : PySem.XM.XmC l.prog K E_7 E_7 I_7 "index" :=
    { cls := ⟨_, _, _, _, _, _, _, _, _, _, _, _, _, _, _, xL_7, rv_7⟩, sa := xsa_7, noF := xno_7, iC := xi_7, tI := xt_7, kC := kpE_7, exC := exE_7, vC := sv_7, tyC := tyE_7,
      fn := ⟨cc_7, cda_7, _, _, _, _, _, _, _, _, _, _, _, _, _, _, _, _, _, _, _, _, _, _, xl_7, xco_7, xpe_7, ⟨_, _, _, _, _, _, xcd_7, xv2_7, xfi_7⟩, ⟨_, _, _, xce_7⟩⟩,
      nf := by simp, bd := fun _ _ _ _ _ _ _ _ _ _ _ _ _ _ _ _ _ _ _ _ _ _ _ _ => .of_eq rfl, clD := ⟨_, xci_7⟩, subD := xmr_7, sup := xsu_7, thi := xthi, top := xtop }
  have xm_8 : PySem.XM.XmC l.prog K E_8 E_8 I_8 "state" :=
    { cls := ⟨_, _, _, _, _, _, _, _, _, _, _, _, _, _, _, xL_8, rv_8⟩, sa := xsa_8, noF := xno_8, iC := xi_8, tI := xt_8, kC := kpE_8, exC := exE_8, vC := sv_8, tyC := tyE_8,
      fn := ⟨cc_8, cda_8, _, _, _, _, _, _, _, _, _, _, _, _, _, _, _, _, _, _, _, _, _, _, xl_8, xco_8, xpe_8, ⟨_, _, _, _, _, _, xcd_8, xv2_8, xfi_8⟩, ⟨_, _, _, xce_8⟩⟩,
      nf := by simp, bd := fun _ _ _ _ _ _ _ _ _ _ _ _ _ _ _ _ _ _ _ _ _ _ _ _ => .of_eq rfl, clD := ⟨_, xci_8⟩, subD := xmr_8, sup := xsu_8, thi := xthi, top := xtop }
  have xm_15 : PySem.XM.XmC l.prog K E_15 E_15 I_15 "limit" :=
    { cls := ⟨_, _, _, _, _, _, _, _, _, _, _, _, _, _, _, xL_15, rv_15⟩, sa := xsa_15, noF := xno_15, iC := xi_15, tI := xt_15, kC := kpE_15, exC := exE_15, vC := sv_15, tyC := tyE_15,
      fn := ⟨cc_15, cda_15, _, _, _, _, _, _, _, _, _, _, _, _, _, _, _, _, _, _, _, _, _, _, xl_15, xco_15, xpe_15, ⟨_, _, _, _, _, _, xcd_15, xv2_15, xfi_15⟩, ⟨_, _, _, xce_15⟩⟩,
      nf := by simp, bd := fun _ _ _ _ _ _ _ _ _ _ _ _ _ _ _ _ _ _ _ _ _ _ _ _ => .of_eq rfl, clD := ⟨_, xci_15⟩, subD := xmr_15, sup := xsu_15, thi := xthi, top := xtop }
  have TG : GameT K mg C_G := ⟨cl_G, n_G_letters, n_G_words, n_G_rounds, n_G_pairs, con_G_MOST_ROUNDS, mC_G⟩
  have TS : SameT mg := ⟨o_isinstance, o_bool, o_int, o_str, o_list, o_tuple, o_len, o_range⟩
  have TC : ClsT mg (cAt E_1 [E_1, E_1, E_2, E_3, E_4, E_5, E_6, E_7, E_8, E_9, E_10, E_11, E_12, E_13, E_14, E_15, E_16, E_17, E_18]) := ⟨mE_1, mE_2, mE_3, mE_4, mE_5, mE_6, mE_7, mE_8, mE_9, mE_10, mE_11, mE_12, mE_13, mE_14, mE_15, mE_16, mE_17, mE_18⟩
  have is_2 : IsOf K (cAt E_1 [E_1, E_1, E_2, E_3, E_4, E_5, E_6, E_7, E_8, E_9, E_10, E_11, E_12, E_13, E_14, E_15, E_16, E_17, E_18]) E_2 [true, true, true, false, false, false, false, false, false, false, false, false, false, false, false, false, false, false, false] := .cons kv_2 (.cons kt_2_1 (.cons kt_2_2 (.cons kt_2_3 (.cons kt_2_4 (.cons kt_2_5 (.cons kt_2_6 (.cons kt_2_7 (.cons kt_2_8 (.cons kt_2_9 (.cons kt_2_10 (.cons kt_2_11 (.cons kt_2_12 (.cons kt_2_13 (.cons kt_2_14 (.cons kt_2_15 (.cons kt_2_16 (.cons kt_2_17 (.cons kt_2_18 .nil))))))))))))))))))
  have is_7 : IsOf K (cAt E_1 [E_1, E_1, E_2, E_3, E_4, E_5, E_6, E_7, E_8, E_9, E_10, E_11, E_12, E_13, E_14, E_15, E_16, E_17, E_18]) E_7 [true, true, false, false, false, false, false, true, false, false, false, false, false, false, false, false, false, false, false] := .cons kv_7 (.cons kt_7_1 (.cons kt_7_2 (.cons kt_7_3 (.cons kt_7_4 (.cons kt_7_5 (.cons kt_7_6 (.cons kt_7_7 (.cons kt_7_8 (.cons kt_7_9 (.cons kt_7_10 (.cons kt_7_11 (.cons kt_7_12 (.cons kt_7_13 (.cons kt_7_14 (.cons kt_7_15 (.cons kt_7_16 (.cons kt_7_17 (.cons kt_7_18 .nil))))))))))))))))))
  have is_8 : IsOf K (cAt E_1 [E_1, E_1, E_2, E_3, E_4, E_5, E_6, E_7, E_8, E_9, E_10, E_11, E_12, E_13, E_14, E_15, E_16, E_17, E_18]) E_8 [true, true, false, false, false, false, false, false, true, false, false, false, false, false, false, false, false, false, false] := .cons kv_8 (.cons kt_8_1 (.cons kt_8_2 (.cons kt_8_3 (.cons kt_8_4 (.cons kt_8_5 (.cons kt_8_6 (.cons kt_8_7 (.cons kt_8_8 (.cons kt_8_9 (.cons kt_8_10 (.cons kt_8_11 (.cons kt_8_12 (.cons kt_8_13 (.cons kt_8_14 (.cons kt_8_15 (.cons kt_8_16 (.cons kt_8_17 (.cons kt_8_18 .nil))))))))))))))))))
  have is_15 : IsOf K (cAt E_1 [E_1, E_1, E_2, E_3, E_4, E_5, E_6, E_7, E_8, E_9, E_10, E_11, E_12, E_13, E_14, E_15, E_16, E_17, E_18]) E_15 [true, true, false, false, false, false, false, false, false, false, false, false, false, false, false, true, false, false, false] := .cons kv_15 (.cons kt_15_1 (.cons kt_15_2 (.cons kt_15_3 (.cons kt_15_4 (.cons kt_15_5 (.cons kt_15_6 (.cons kt_15_7 (.cons kt_15_8 (.cons kt_15_9 (.cons kt_15_10 (.cons kt_15_11 (.cons kt_15_12 (.cons kt_15_13 (.cons kt_15_14 (.cons kt_15_15 (.cons kt_15_16 (.cons kt_15_17 (.cons kt_15_18 .nil))))))))))))))))))
  have TE : ErrT l.prog K mg (cAt E_1 [E_1, E_1, E_2, E_3, E_4, E_5, E_6, E_7, E_8, E_9, E_10, E_11, E_12, E_13, E_14, E_15, E_16, E_17, E_18]) I_7 I_8 I_15 := ⟨xm_7, xm_8, xm_15, o_super, mE_7, mE_8, mE_15, mE_2, xq_2, kpE_2, exE_2, tyE_2⟩
  have TT : TryT K mg (cAt E_1 [E_1, E_1, E_2, E_3, E_4, E_5, E_6, E_7, E_8, E_9, E_10, E_11, E_12, E_13, E_14, E_15, E_16, E_17, E_18]) := ⟨⟨xc_2, ⟨_, is_2, by decide +kernel⟩, xf_2⟩, ⟨xc_7, ⟨_, is_7, by decide +kernel⟩, xf_7⟩, ⟨xc_8, ⟨_, is_8, by decide +kernel⟩, xf_8⟩, ⟨xc_15, ⟨_, is_15, by decide +kernel⟩, xf_15⟩, xno_7, xno_8, xno_15, mE_1, mE_7, mE_8, mE_15, (PySem.W.exm_ref exE_7 hdE_7 tyE_7 s_7_7), (PySem.W.exm_ref exE_8 hdE_8 tyE_8 s_8_8), (PySem.W.exm_ref exE_15 hdE_15 tyE_15 s_15_15), (PySem.W.exm_ref exE_15 hdE_15 tyE_15 s_8_15), (PySem.W.exm_ref exE_7 hdE_7 tyE_7 s_15_7), (PySem.W.exm_ref exE_7 hdE_7 tyE_7 s_2_7), (PySem.W.exm_ref exE_15 hdE_15 tyE_15 s_2_15), (PySem.W.exm_ref exE_1 hdE_1 tyE_1 s_2_1)⟩
  refine ⟨PySem.W.fnOf "law" "law" (defArgs sLaw) (defBody sLaw) (defScope sLaw) .none kV_law dc_law pm_law an_law cd_law ct_law, fun s v => .of_eq rfl, fun base _ _ => ?_⟩
  have cDraw : Cal l.prog w K mg base "_law_draw" 1 ["state", "many"] (spDraw K) := ⟨_, _, ok_draw F_draw o_len o_int, m_draw, F_draw.kp, b_draw⟩
  have cWord : Cal l.prog w K mg base "_law_word" 2 ["state", "letters", "most"] (spWord K) := ⟨_, _, ok_word F_word o_range o_len cDraw, m_word, F_word.kp, b_word⟩
  have cS0 : Cal l.prog w K mg base "_law_same" 0 ["actual", "expected"] (spSame K 0) := ⟨_, _, same0, m_same, F_same.kp, b_same⟩
  have cS1 : Cal l.prog w K mg base "_law_same" 1 ["actual", "expected"] (spSame K 1) := ⟨_, _, sameS F_same TS cS0, m_same, F_same.kp, b_same⟩
  have cS2 : Cal l.prog w K mg base "_law_same" 2 ["actual", "expected"] (spSame K 2) := ⟨_, _, sameS F_same TS cS1, m_same, F_same.kp, b_same⟩
  have cS3 : Cal l.prog w K mg base "_law_same" 3 ["actual", "expected"] (spSame K 3) := ⟨_, _, sameS F_same TS cS2, m_same, F_same.kp, b_same⟩
  have cS4 : Cal l.prog w K mg base "_law_same" 4 ["actual", "expected"] (spSame K 4) := ⟨_, _, sameS F_same TS cS3, m_same, F_same.kp, b_same⟩
  have cS5 : Cal l.prog w K mg base "_law_same" 5 ["actual", "expected"] (spSame K 5) := ⟨_, _, sameS F_same TS cS4, m_same, F_same.kp, b_same⟩
  have cLA : Cal l.prog w K mg base "letter_at" 1 ["word", "place"] (spLetter_at) := ⟨_, _, ok_letter_at F_letter_at, m_letter_at, F_letter_at.kp, b_letter_at⟩
  have cPl : Cal l.prog w K mg base "plain_kind" 2 ["word", "places"] (spPlain K) := ⟨_, _, ok_plain F_plain o_tuple o_int cLA, m_plain, F_plain.kp, b_plain⟩
  have cK := ok_kind (base := base) (P := l.prog) F_kind b_kind m_kind o_len o_range o_tuple o_set o_sorted cPl
  have cCL : Cal l.prog w K mg base "check_letters" 1 ["letters"] (spCheckL) := ⟨_, _, ok_checkL F_checkL o_len mg_ML mg_SM, m_checkL, F_checkL.kp, b_checkL⟩
  have cCW : Cal l.prog w K mg base "check_word" 1 ["word", "letters"] (spCheckW) := ⟨_, _, ok_checkW F_checkW o_enumerate, m_checkW, F_checkW.kp, b_checkW⟩
  have GI := ok_init F_init TG cCL cCW
  have cCLX : CalX l.prog w K mg base "check_letters" 3 ["letters"] (spLettersX (cAt E_1 [E_1, E_1, E_2, E_3, E_4, E_5, E_6, E_7, E_8, E_9, E_10, E_11, E_12, E_13, E_14, E_15, E_16, E_17, E_18])) := ⟨_, _, ok_lettersX F_checkL TE o_len mg_ML mg_SM, m_checkL, F_checkL.kp, b_checkL⟩
  have cCWX : CalX l.prog w K mg base "check_word" 3 ["word", "letters"] (spWordX (cAt E_1 [E_1, E_1, E_2, E_3, E_4, E_5, E_6, E_7, E_8, E_9, E_10, E_11, E_12, E_13, E_14, E_15, E_16, E_17, E_18])) := ⟨_, _, ok_wordX F_checkW TE o_enumerate, m_checkW, F_checkW.kp, b_checkW⟩
  have cCPX : CalX l.prog w K mg base "check_place" 3 ["place", "word"] (spPlaceX (cAt E_1 [E_1, E_1, E_2, E_3, E_4, E_5, E_6, E_7, E_8, E_9, E_10, E_11, E_12, E_13, E_14, E_15, E_16, E_17, E_18])) := ⟨_, _, ok_placeX F_checkP TE o_len, m_checkP, F_checkP.kp, b_checkP⟩
  have GX := ok_initX F_init TE TG cCLX cCWX
  have cLen : MCal l.prog w K mg base C_G "__len__" 1 ["self"] (spLenG C_G) := ⟨_, _, ok_lenG F_len TG o_len, me_len, b_len⟩
  have cCh : MCalX l.prog w K mg base C_G "check_choice" 4 ["self", "side", "place"] (spChoiceX (cAt E_1 [E_1, E_1, E_2, E_3, E_4, E_5, E_6, E_7, E_8, E_9, E_10, E_11, E_12, E_13, E_14, E_15, E_16, E_17, E_18]) C_G) := ⟨_, _, ok_choiceX F_choice TE TG o_len cCPX, me_choice, b_choice⟩
  have cPlay : MCalX l.prog w K mg base C_G "play" 5 ["self", "side", "place", "answer"] (spPlayX (cAt E_1 [E_1, E_1, E_2, E_3, E_4, E_5, E_6, E_7, E_8, E_9, E_10, E_11, E_12, E_13, E_14, E_15, E_16, E_17, E_18]) C_G) := ⟨_, _, ok_playX F_play TE TG cCPX cCh, me_play, b_play⟩
  have cBack : MCal l.prog w K mg base C_G "back" 1 ["self"] (spBack2 C_G) := ⟨_, _, fn_weak (ok_back F_back TG o_len) back2, me_back, b_back⟩
  have cWins : MCal l.prog w K mg base C_G "wins" 7 ["self"] (spWins C_G) := ⟨_, _, ok_wins F_wins TG o_len o_tuple cK, me_wins, b_wins⟩
  have cKinds : MCal l.prog w K mg base C_G "kinds" 6 ["self", "side", "numbers"] (spKinds l.prog w C_G) := ⟨_, _, ok_kinds F_kinds TG o_len o_tuple o_range cK, me_kinds, b_kinds⟩
  have cReply : MCalX l.prog w K mg base C_G "reply" 7 ["self", "side", "place"] (spReplyX (cAt E_1 [E_1, E_1, E_2, E_3, E_4, E_5, E_6, E_7, E_8, E_9, E_10, E_11, E_12, E_13, E_14, E_15, E_16, E_17, E_18]) C_G) := ⟨_, _, ok_replyX F_reply TG o_enumerate cCh cKinds, me_reply, b_reply⟩
  have cAttack : MCal l.prog w K mg base C_G "attack" 7 ["self"] (spAttack C_G) := ⟨_, _, ok_attack F_attack TG o_len o_enumerate cKinds, me_attack, b_attack⟩
  have cE : CalE l.prog w K mg base (cAt E_1 [E_1, E_1, E_2, E_3, E_4, E_5, E_6, E_7, E_8, E_9, E_10, E_11, E_12, E_13, E_14, E_15, E_16, E_17, E_18]) := ⟨_, _, ok_classes F_classes TC TS o_ValueError, m_classes, F_classes.kp, b_classes⟩
  have cPlayed : Cal l.prog w K mg base "_law_played" 6 ["game", "side", "place", "answer"] (spPlayed C_G) := ⟨_, _, ok_played F_played TT TG cE cPlay, m_played, F_played.kp, b_played⟩
  have cReplied : Cal l.prog w K mg base "_law_replied" 8 ["game", "side", "place"] (spReplied C_G) := ⟨_, _, ok_replied F_replied TT TG cE cReply, m_replied, F_replied.kp, b_replied⟩
  have cBegun : Cal l.prog w K mg base "_law_begun" 6 ["letters", "one", "other", "rounds"] (spBegun) := ⟨_, _, ok_begun F_begun TT TG cE M_G GX b_init, m_begun, F_begun.kp, b_begun⟩
  have cLP : Cal l.prog w K mg base "_law_plain" 1 ["word", "places"] (spPlain K) := ⟨_, _, ok_lplain F_lplain o_tuple o_int o_max, m_lplain, F_lplain.kp, b_lplain⟩
  have cLK := ok_lkind (base := base) (P := l.prog) (w := w) F_lkind b_lkind m_lkind o_len o_range cLP
  have cCho : Cal l.prog w K mg base "_law_chosen" 1 ["pairs", "side"] (spChosen K) := ⟨_, _, ok_chosen F_chosen o_tuple, m_chosen, F_chosen.kp, b_chosen⟩
  have cLW : Cal l.prog w K mg base "_law_wins" 7 ["words", "pairs", "left"] (spLWins K) := ⟨_, _, ok_lwins F_lwins cCho cLK, m_lwins, F_lwins.kp, b_lwins⟩
  have cLR : Cal l.prog w K mg base "_law_reply" 6 ["words", "pairs", "left", "side", "place"] (spLReply K) := ⟨_, _, ok_lreply F_lreply o_len o_range cCho cLK, m_lreply, F_lreply.kp, b_lreply⟩
  have cLAt : Cal l.prog w K mg base "_law_attack" 7 ["words", "pairs", "left"] (spLAttack K) := ⟨_, _, ok_lattack F_lattack o_len o_range cLR, m_lattack, F_lattack.kp, b_lattack⟩
  have cFault : Cal l.prog w K mg base "_law_fault" 1 ["words", "left", "rounds", "side", "place"] (spFault K) := ⟨_, _, ok_fault F_fault o_len, m_fault, F_fault.kp, b_fault⟩
  have cStr : Cal l.prog w K mg base "_law_stranger" 2 ["state", "letters"] (spStranger K) := ⟨_, _, ok_stranger F_stranger o_len cDraw, m_stranger, F_stranger.kp, b_stranger⟩
  have cStands : Cal l.prog w K mg base "_law_stands" 8 ["game", "words", "pairs", "rounds"] (spStands K C_G) := ⟨_, _, ok_stands F_stands TG TS cS5 cLen cWins cLW, m_stands, F_stands.kp, b_stands⟩
  have dc : DeedC l.prog w K mg base C_G := ⟨TG, TS, o_max, cDraw, cS5, cFault, cLR, cLAt, cReplied, cPlayed, cBack, cAttack⟩
  have cDeed : Cal l.prog w K mg base "_law_deed" 9 ["state", "game", "words", "pairs", "rounds"] (spDeed K C_G) := ⟨_, _, ok_deed F_deed dc, m_deed, F_deed.kp, b_deed⟩
  have cRef : Cal l.prog w K mg base "_law_refusals" 7 ["state", "letters", "one", "other"] (spRefusals K) := ⟨_, _, ok_refusals F_refusals TS cDraw cS5 cStr cWord cBegun, m_refusals, F_refusals.kp, b_refusals⟩
  have cNew : Cal l.prog w K mg base "_law_new" 1 ["script"] (spNew K) := ⟨_, _, ok_new F_new o_list, m_new, F_new.kp, b_new⟩
  have cLet : Cal l.prog w K mg base "_law_letters" 2 ["state", "most"] (spLetters K) := ⟨_, _, ok_letters F_letters o_range cDraw, m_letters, F_letters.kp, b_letters⟩
  exact ok_law F_law ⟨TG, TS, o_min, ⟨_, ⟨rdG, gaG⟩, uvG, ⟨cvG, rlG⟩⟩, cNew, cLet, cDraw, cWord, cS5, cStands, cDeed, cPlayed, cRef⟩ M_G GI b_init
theorem walk {l : PySem.W.OpenLaw} {q : Program} {loose : List Str} {XP : (Str → Option Value) → Heap → Prop} {YP : World → Heap → Prop} {d : DefRec} {K : Params → PySem.W.Frag} (hn : l.most = some 63) (hdf : d.params.defaults = [])
    (hY : ∀ (w : World) (h : Heap), YP w h → (K w.params).In h)
    (F : ∀ (w : World) (mg : Str → Option Value) (fa : Addr) (h : Heap), (K w.params).In h → h.Ns mainGlobals mg → mg d.name = some (.ref fa) →
      ∃ fd : FuncData, (∀ (s : Shared) (u : Value), BindsTo s fd ⟨[u], []⟩ [("script", u)]) ∧ ∀ base : Heap, (K w.params).In base → base.Ns mainGlobals mg → FnOk l.prog w (K w.params) mg base CX0 10 fa fd ["script"] (spLaw (K w.params))) :
    PySem.W.WalkO q loose XP YP l.row.toRowW d [] (fun f vs => PySem.call f vs) :=
  L2.walk_ofB (n := 63) (k := 10) (x := "script") (CX := fun _ => CX0) (sp := fun w => spLaw (K w.params)) hn (by decide) hdf ⟨rfl, by decide, by decide⟩ hY F (fun _ _ a ns hl hb _ hS => ⟨a, ns, rfl, hS, hl, hb, fun _ => rfl⟩) fun _ _ _ _ _ z => z
end W8

set_option Elab.async false
set_option linter.all false
open PySem PySem.W PyProof.Rows
set_option maxRecDepth 100000 in
set_option maxHeartbeats 0 in
theorem PySem.Challenge.cw_turtlestold_k82_rounds_of_a_game_holds : PySem.Challenge.rw_turtlestold_k82_rounds_of_a_game.Holds := by
  w_on; o_law; k_head; (case hw => w_witness2)
  k_fill
  refine W8.walk (l := PySem.Challenge.rw_turtlestold_k82_rounds_of_a_game) rfl rfl (fun w h Y => PySem.W.kIn_of Y) ?F
  case F =>
    intro w mg fa h KX G hmg
    refine' W8.all_mk KX G hmg ?aC_G ?a_letter_at ?l_letter_at ?c_letter_at ?k_letter_at ?a_plain ?l_plain ?c_plain ?k_plain ?a_kind ?l_kind ?c_kind ?k_kind ?a_checkL ?l_checkL ?c_checkL ?k_checkL ?a_checkW ?l_checkW ?c_checkW ?k_checkW ?a_checkP ?l_checkP ?c_checkP ?k_checkP ?a_init ?i_init ?l_init ?c_init ?k_init ?a_len ?i_len ?l_len ?c_len ?k_len ?a_choice ?i_choice ?l_choice ?c_choice ?k_choice ?a_play ?i_play ?l_play ?c_play ?k_play ?a_back ?i_back ?l_back ?c_back ?k_back ?a_wins ?i_wins ?l_wins ?c_wins ?k_wins ?a_kinds ?i_kinds ?l_kinds ?c_kinds ?k_kinds ?a_reply ?i_reply ?l_reply ?c_reply ?k_reply ?a_attack ?i_attack ?l_attack ?c_attack ?k_attack ?a_new ?l_new ?c_new ?k_new ?a_draw ?l_draw ?c_draw ?k_draw ?a_same ?l_same ?c_same ?k_same ?a_letters ?l_letters ?c_letters ?k_letters ?a_word ?l_word ?c_word ?k_word ?a_classes ?l_classes ?c_classes ?k_classes ?a_stranger ?l_stranger ?c_stranger ?k_stranger ?a_lplain ?l_lplain ?c_lplain ?k_lplain ?a_lkind ?l_lkind ?c_lkind ?k_lkind ?a_chosen ?l_chosen ?c_chosen ?k_chosen ?a_lwins ?l_lwins ?c_lwins ?k_lwins ?a_lreply ?l_lreply ?c_lreply ?k_lreply ?a_lattack ?l_lattack ?c_lattack ?k_lattack ?a_fault ?l_fault ?c_fault ?k_fault ?a_played ?l_played ?c_played ?k_played ?a_replied ?l_replied ?c_replied ?k_replied ?a_begun ?l_begun ?c_begun ?k_begun ?a_stands ?l_stands ?c_stands ?k_stands ?a_deed ?l_deed ?c_deed ?k_deed ?a_refusals ?l_refusals ?c_refusals ?k_refusals ?a_law ?l_law ?c_law ?k_law ?pg_G ?hd_G ?po_G ?sa_G ?mk_G ?kc_G ?n_G_letters ?n_G_words ?n_G_rounds ?n_G_pairs ?g_ML ?g_SM ?co_G_MOST_ROUNDS ?cg_G_MOST_ROUNDS ?z_len ?z_int ?z_range ?z_tuple ?z_set ?z_sorted ?z_enumerate ?z_max ?z_min ?z_list ?z_isinstance ?z_bool ?z_str ?z_super ?z_ValueError ?aE_1 ?hdE_1 ?tyE_1 ?exE_1 ?kpE_1 ?aE_2 ?hdE_2 ?tyE_2 ?exE_2 ?kpE_2 ?aE_3 ?hdE_3 ?tyE_3 ?exE_3 ?kpE_3 ?aE_4 ?hdE_4 ?tyE_4 ?exE_4 ?kpE_4 ?aE_5 ?hdE_5 ?tyE_5 ?exE_5 ?kpE_5 ?aE_6 ?hdE_6 ?tyE_6 ?exE_6 ?kpE_6 ?aE_7 ?hdE_7 ?tyE_7 ?exE_7 ?kpE_7 ?aE_8 ?hdE_8 ?tyE_8 ?exE_8 ?kpE_8 ?aE_9 ?hdE_9 ?tyE_9 ?exE_9 ?kpE_9 ?aE_10 ?hdE_10 ?tyE_10 ?exE_10 ?kpE_10 ?aE_11 ?hdE_11 ?tyE_11 ?exE_11 ?kpE_11 ?aE_12 ?hdE_12 ?tyE_12 ?exE_12 ?kpE_12 ?aE_13 ?hdE_13 ?tyE_13 ?exE_13 ?kpE_13 ?aE_14 ?hdE_14 ?tyE_14 ?exE_14 ?kpE_14 ?aE_15 ?hdE_15 ?tyE_15 ?exE_15 ?kpE_15 ?aE_16 ?hdE_16 ?tyE_16 ?exE_16 ?kpE_16 ?aE_17 ?hdE_17 ?tyE_17 ?exE_17 ?kpE_17 ?aE_18 ?hdE_18 ?tyE_18 ?exE_18 ?kpE_18 ?s_2_1 ?s_2_2 ?s_2_3 ?s_2_4 ?s_2_5 ?s_2_6 ?s_2_7 ?s_2_8 ?s_2_9 ?s_2_10 ?s_2_11 ?s_2_12 ?s_2_13 ?s_2_14 ?s_2_15 ?s_2_16 ?s_2_17 ?s_2_18 ?sv_2 ?ga_2 ?gg_2 ?gc_2 ?mo_2 ?s_7_1 ?s_7_2 ?s_7_3 ?s_7_4 ?s_7_5 ?s_7_6 ?s_7_7 ?s_7_8 ?s_7_9 ?s_7_10 ?s_7_11 ?s_7_12 ?s_7_13 ?s_7_14 ?s_7_15 ?s_7_16 ?s_7_17 ?s_7_18 ?sv_7 ?ga_7 ?gg_7 ?gc_7 ?mo_7 ?s_8_1 ?s_8_2 ?s_8_3 ?s_8_4 ?s_8_5 ?s_8_6 ?s_8_7 ?s_8_8 ?s_8_9 ?s_8_10 ?s_8_11 ?s_8_12 ?s_8_13 ?s_8_14 ?s_8_15 ?s_8_16 ?s_8_17 ?s_8_18 ?sv_8 ?ga_8 ?gg_8 ?gc_8 ?mo_8 ?s_15_1 ?s_15_2 ?s_15_3 ?s_15_4 ?s_15_5 ?s_15_6 ?s_15_7 ?s_15_8 ?s_15_9 ?s_15_10 ?s_15_11 ?s_15_12 ?s_15_13 ?s_15_14 ?s_15_15 ?s_15_16 ?s_15_17 ?s_15_18 ?sv_15 ?ga_15 ?gg_15 ?gc_15 ?mo_15 ?gsC ?tkC ?xL_7 ?rv_7 ?xsa_7 ?xno_7 ?xi_7 ?xt_7 ?xl_7 ?xco_7 ?xpe_7 ?xcd_7 ?xv2_7 ?xfi_7 ?xce_7 ?xci_7 ?xmr_7 ?xsu_7 ?xL_8 ?rv_8 ?xsa_8 ?xno_8 ?xi_8 ?xt_8 ?xl_8 ?xco_8 ?xpe_8 ?xcd_8 ?xv2_8 ?xfi_8 ?xce_8 ?xci_8 ?xmr_8 ?xsu_8 ?xL_15 ?rv_15 ?xsa_15 ?xno_15 ?xi_15 ?xt_15 ?xl_15 ?xco_15 ?xpe_15 ?xcd_15 ?xv2_15 ?xfi_15 ?xce_15 ?xci_15 ?xmr_15 ?xsu_15 ?xthi ?xtop ?xq_2 ?rdG ?gaG ?cvG ?rlG
    (case aC_G => k_is)
    (case a_letter_at => k_is)
    (case l_letter_at => k_is)
    (case c_letter_at => k_is)
    (case k_letter_at => k_is)
    (case a_plain => k_is)
    (case l_plain => k_is)
    (case c_plain => k_is)
    (case k_plain => k_is)
    (case a_kind => k_is)
    (case l_kind => k_is)
    (case c_kind => k_is)
    (case k_kind => k_is)
    (case a_checkL => k_is)
    (case l_checkL => k_is)
    (case c_checkL => k_is)
    (case k_checkL => k_is)
    (case a_checkW => k_is)
    (case l_checkW => k_is)
    (case c_checkW => k_is)
    (case k_checkW => k_is)
    (case a_checkP => k_is)
    (case l_checkP => k_is)
    (case c_checkP => k_is)
    (case k_checkP => k_is)
    (case a_init => k_is)
    (case i_init => k_is)
    (case l_init => k_is)
    (case c_init => k_is)
    (case k_init => k_is)
    (case a_len => k_is)
    (case i_len => k_is)
    (case l_len => k_is)
    (case c_len => k_is)
    (case k_len => k_is)
    (case a_choice => k_is)
    (case i_choice => k_is)
    (case l_choice => k_is)
    (case c_choice => k_is)
    (case k_choice => k_is)
    (case a_play => k_is)
    (case i_play => k_is)
    (case l_play => k_is)
    (case c_play => k_is)
    (case k_play => k_is)
    (case a_back => k_is)
    (case i_back => k_is)
    (case l_back => k_is)
    (case c_back => k_is)
    (case k_back => k_is)
    (case a_wins => k_is)
    (case i_wins => k_is)
    (case l_wins => k_is)
    (case c_wins => k_is)
    (case k_wins => k_is)
    (case a_kinds => k_is)
    (case i_kinds => k_is)
    (case l_kinds => k_is)
    (case c_kinds => k_is)
    (case k_kinds => k_is)
    (case a_reply => k_is)
    (case i_reply => k_is)
    (case l_reply => k_is)
    (case c_reply => k_is)
    (case k_reply => k_is)
    (case a_attack => k_is)
    (case i_attack => k_is)
    (case l_attack => k_is)
    (case c_attack => k_is)
    (case k_attack => k_is)
    (case a_new => k_is)
    (case l_new => k_is)
    (case c_new => k_is)
    (case k_new => k_is)
    (case a_draw => k_is)
    (case l_draw => k_is)
    (case c_draw => k_is)
    (case k_draw => k_is)
    (case a_same => k_is)
    (case l_same => k_is)
    (case c_same => k_is)
    (case k_same => k_is)
    (case a_letters => k_is)
    (case l_letters => k_is)
    (case c_letters => k_is)
    (case k_letters => k_is)
    (case a_word => k_is)
    (case l_word => k_is)
    (case c_word => k_is)
    (case k_word => k_is)
    (case a_classes => k_is)
    (case l_classes => k_is)
    (case c_classes => k_is)
    (case k_classes => k_is)
    (case a_stranger => k_is)
    (case l_stranger => k_is)
    (case c_stranger => k_is)
    (case k_stranger => k_is)
    (case a_lplain => k_is)
    (case l_lplain => k_is)
    (case c_lplain => k_is)
    (case k_lplain => k_is)
    (case a_lkind => k_is)
    (case l_lkind => k_is)
    (case c_lkind => k_is)
    (case k_lkind => k_is)
    (case a_chosen => k_is)
    (case l_chosen => k_is)
    (case c_chosen => k_is)
    (case k_chosen => k_is)
    (case a_lwins => k_is)
    (case l_lwins => k_is)
    (case c_lwins => k_is)
    (case k_lwins => k_is)
    (case a_lreply => k_is)
    (case l_lreply => k_is)
    (case c_lreply => k_is)
    (case k_lreply => k_is)
    (case a_lattack => k_is)
    (case l_lattack => k_is)
    (case c_lattack => k_is)
    (case k_lattack => k_is)
    (case a_fault => k_is)
    (case l_fault => k_is)
    (case c_fault => k_is)
    (case k_fault => k_is)
    (case a_played => k_is)
    (case l_played => k_is)
    (case c_played => k_is)
    (case k_played => k_is)
    (case a_replied => k_is)
    (case l_replied => k_is)
    (case c_replied => k_is)
    (case k_replied => k_is)
    (case a_begun => k_is)
    (case l_begun => k_is)
    (case c_begun => k_is)
    (case k_begun => k_is)
    (case a_stands => k_is)
    (case l_stands => k_is)
    (case c_stands => k_is)
    (case k_stands => k_is)
    (case a_deed => k_is)
    (case l_deed => k_is)
    (case c_deed => k_is)
    (case k_deed => k_is)
    (case a_refusals => k_is)
    (case l_refusals => k_is)
    (case c_refusals => k_is)
    (case k_refusals => k_is)
    (case a_law => k_is)
    (case l_law => k_is)
    (case c_law => k_is)
    (case k_law => k_is)
    (case pg_G => k_is)
    (case hd_G => k_is)
    (case po_G => k_is)
    (case sa_G => k_is)
    (case mk_G => k_is)
    (case kc_G => k_is)
    (case n_G_letters => k_is)
    (case n_G_words => k_is)
    (case n_G_rounds => k_is)
    (case n_G_pairs => k_is)
    (case g_ML => k_is)
    (case g_SM => k_is)
    (case co_G_MOST_ROUNDS => k_is)
    (case cg_G_MOST_ROUNDS => k_is)
    (case z_len => k_is)
    (case z_int => k_is)
    (case z_range => k_is)
    (case z_tuple => k_is)
    (case z_set => k_is)
    (case z_sorted => k_is)
    (case z_enumerate => k_is)
    (case z_max => k_is)
    (case z_min => k_is)
    (case z_list => k_is)
    (case z_isinstance => k_is)
    (case z_bool => k_is)
    (case z_str => k_is)
    (case z_super => k_is)
    (case z_ValueError => k_is)
    (case aE_1 => k_is)
    (case hdE_1 => k_is)
    (case tyE_1 => k_is)
    (case exE_1 => k_is)
    (case kpE_1 => k_is)
    (case aE_2 => k_is)
    (case hdE_2 => k_is)
    (case tyE_2 => k_is)
    (case exE_2 => k_is)
    (case kpE_2 => k_is)
    (case aE_3 => k_is)
    (case hdE_3 => k_is)
    (case tyE_3 => k_is)
    (case exE_3 => k_is)
    (case kpE_3 => k_is)
    (case aE_4 => k_is)
    (case hdE_4 => k_is)
    (case tyE_4 => k_is)
    (case exE_4 => k_is)
    (case kpE_4 => k_is)
    (case aE_5 => k_is)
    (case hdE_5 => k_is)
    (case tyE_5 => k_is)
    (case exE_5 => k_is)
    (case kpE_5 => k_is)
    (case aE_6 => k_is)
    (case hdE_6 => k_is)
    (case tyE_6 => k_is)
    (case exE_6 => k_is)
    (case kpE_6 => k_is)
    (case aE_7 => k_is)
    (case hdE_7 => k_is)
    (case tyE_7 => k_is)
    (case exE_7 => k_is)
    (case kpE_7 => k_is)
    (case aE_8 => k_is)
    (case hdE_8 => k_is)
    (case tyE_8 => k_is)
    (case exE_8 => k_is)
    (case kpE_8 => k_is)
    (case aE_9 => k_is)
    (case hdE_9 => k_is)
    (case tyE_9 => k_is)
    (case exE_9 => k_is)
    (case kpE_9 => k_is)
    (case aE_10 => k_is)
    (case hdE_10 => k_is)
    (case tyE_10 => k_is)
    (case exE_10 => k_is)
    (case kpE_10 => k_is)
    (case aE_11 => k_is)
    (case hdE_11 => k_is)
    (case tyE_11 => k_is)
    (case exE_11 => k_is)
    (case kpE_11 => k_is)
    (case aE_12 => k_is)
    (case hdE_12 => k_is)
    (case tyE_12 => k_is)
    (case exE_12 => k_is)
    (case kpE_12 => k_is)
    (case aE_13 => k_is)
    (case hdE_13 => k_is)
    (case tyE_13 => k_is)
    (case exE_13 => k_is)
    (case kpE_13 => k_is)
    (case aE_14 => k_is)
    (case hdE_14 => k_is)
    (case tyE_14 => k_is)
    (case exE_14 => k_is)
    (case kpE_14 => k_is)
    (case aE_15 => k_is)
    (case hdE_15 => k_is)
    (case tyE_15 => k_is)
    (case exE_15 => k_is)
    (case kpE_15 => k_is)
    (case aE_16 => k_is)
    (case hdE_16 => k_is)
    (case tyE_16 => k_is)
    (case exE_16 => k_is)
    (case kpE_16 => k_is)
    (case aE_17 => k_is)
    (case hdE_17 => k_is)
    (case tyE_17 => k_is)
    (case exE_17 => k_is)
    (case kpE_17 => k_is)
    (case aE_18 => k_is)
    (case hdE_18 => k_is)
    (case tyE_18 => k_is)
    (case exE_18 => k_is)
    (case kpE_18 => k_is)
    (case s_2_1 => k_is)
    (case s_2_2 => k_is)
    (case s_2_3 => k_is)
    (case s_2_4 => k_is)
    (case s_2_5 => k_is)
    (case s_2_6 => k_is)
    (case s_2_7 => k_is)
    (case s_2_8 => k_is)
    (case s_2_9 => k_is)
    (case s_2_10 => k_is)
    (case s_2_11 => k_is)
    (case s_2_12 => k_is)
    (case s_2_13 => k_is)
    (case s_2_14 => k_is)
    (case s_2_15 => k_is)
    (case s_2_16 => k_is)
    (case s_2_17 => k_is)
    (case s_2_18 => k_is)
    (case sv_2 => k_is)
    (case ga_2 => k_is)
    (case gg_2 => k_is)
    (case gc_2 => k_is)
    (case mo_2 => k_is)
    (case s_7_1 => k_is)
    (case s_7_2 => k_is)
    (case s_7_3 => k_is)
    (case s_7_4 => k_is)
    (case s_7_5 => k_is)
    (case s_7_6 => k_is)
    (case s_7_7 => k_is)
    (case s_7_8 => k_is)
    (case s_7_9 => k_is)
    (case s_7_10 => k_is)
    (case s_7_11 => k_is)
    (case s_7_12 => k_is)
    (case s_7_13 => k_is)
    (case s_7_14 => k_is)
    (case s_7_15 => k_is)
    (case s_7_16 => k_is)
    (case s_7_17 => k_is)
    (case s_7_18 => k_is)
    (case sv_7 => k_is)
    (case ga_7 => k_is)
    (case gg_7 => k_is)
    (case gc_7 => k_is)
    (case mo_7 => k_is)
    (case s_8_1 => k_is)
    (case s_8_2 => k_is)
    (case s_8_3 => k_is)
    (case s_8_4 => k_is)
    (case s_8_5 => k_is)
    (case s_8_6 => k_is)
    (case s_8_7 => k_is)
    (case s_8_8 => k_is)
    (case s_8_9 => k_is)
    (case s_8_10 => k_is)
    (case s_8_11 => k_is)
    (case s_8_12 => k_is)
    (case s_8_13 => k_is)
    (case s_8_14 => k_is)
    (case s_8_15 => k_is)
    (case s_8_16 => k_is)
    (case s_8_17 => k_is)
    (case s_8_18 => k_is)
    (case sv_8 => k_is)
    (case ga_8 => k_is)
    (case gg_8 => k_is)
    (case gc_8 => k_is)
    (case mo_8 => k_is)
    (case s_15_1 => k_is)
    (case s_15_2 => k_is)
    (case s_15_3 => k_is)
    (case s_15_4 => k_is)
    (case s_15_5 => k_is)
    (case s_15_6 => k_is)
    (case s_15_7 => k_is)
    (case s_15_8 => k_is)
    (case s_15_9 => k_is)
    (case s_15_10 => k_is)
    (case s_15_11 => k_is)
    (case s_15_12 => k_is)
    (case s_15_13 => k_is)
    (case s_15_14 => k_is)
    (case s_15_15 => k_is)
    (case s_15_16 => k_is)
    (case s_15_17 => k_is)
    (case s_15_18 => k_is)
    (case sv_15 => k_is)
    (case ga_15 => k_is)
    (case gg_15 => k_is)
    (case gc_15 => k_is)
    (case mo_15 => k_is)
    (case gsC => k_is)
    (case tkC => k_is)
    (case xL_7 => k_is)
    (case rv_7 => first | rfl | decide +kernel)
    (case xsa_7 => k_is)
    (case xno_7 => k_is)
    (case xi_7 => k_is)
    (case xt_7 => k_is)
    (case xl_7 => k_is)
    (case xco_7 => k_is)
    (case xpe_7 => first | rfl | decide +kernel)
    (case xcd_7 => k_is)
    (case xv2_7 => first | rfl | decide +kernel)
    (case xfi_7 => first | rfl | decide +kernel)
    (case xce_7 => k_is)
    (case xci_7 => k_is)
    (case xmr_7 => k_is)
    (case xsu_7 => ks_is)
    (case xL_8 => k_is)
    (case rv_8 => first | rfl | decide +kernel)
    (case xsa_8 => k_is)
    (case xno_8 => k_is)
    (case xi_8 => k_is)
    (case xt_8 => k_is)
    (case xl_8 => k_is)
    (case xco_8 => k_is)
    (case xpe_8 => first | rfl | decide +kernel)
    (case xcd_8 => k_is)
    (case xv2_8 => first | rfl | decide +kernel)
    (case xfi_8 => first | rfl | decide +kernel)
    (case xce_8 => k_is)
    (case xci_8 => k_is)
    (case xmr_8 => k_is)
    (case xsu_8 => ks_is)
    (case xL_15 => k_is)
    (case rv_15 => first | rfl | decide +kernel)
    (case xsa_15 => k_is)
    (case xno_15 => k_is)
    (case xi_15 => k_is)
    (case xt_15 => k_is)
    (case xl_15 => k_is)
    (case xco_15 => k_is)
    (case xpe_15 => first | rfl | decide +kernel)
    (case xcd_15 => k_is)
    (case xv2_15 => first | rfl | decide +kernel)
    (case xfi_15 => first | rfl | decide +kernel)
    (case xce_15 => k_is)
    (case xci_15 => k_is)
    (case xmr_15 => k_is)
    (case xsu_15 => ks_is)
    (case xthi => k_is)
    (case xtop => first | rfl | decide +kernel)
    (case xq_2 => k_exc)
    (case rdG => k_is)
    (case gaG => k_is)
    (case cvG => k_is)
    (case rlG => exact ⟨_, rfl⟩)

