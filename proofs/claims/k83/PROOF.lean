import PyProof.Rows.All
import Wide.All
import OpenK.AllK
import Wide.FinOn
import HandS.ForMost
import HandS.TupLen
import PyProof.Draws
import PyProof.Rows.StrMul
import HandS.Strs
import HandS.SetFor
import HandS.EndBits
import HandS.OwnEq
import HandS.DictSub
import HandS.Codes
import HandS.TupAny
import HandS.Walk
import PySem.Challenge.RW_turtlestold_k83_whole_strategies
import HandS.StrMore
import HandS.IsInst
import HandS.WordsExc
import KE.Datum
/-! The game on two words, in plain Lean: composition, restriction, repetition, reversal, renaming. -/
namespace GM

/-- the letter of a place; place 0 has none -/
def lt (w : List Nat) (p : Nat) : Option Nat := if p = 0 then none else w[p - 1]?

theorem lt_zero (w : List Nat) : lt w 0 = none := rfl
theorem lt_succ (w : List Nat) (p : Nat) : lt w (p + 1) = w[p]? := rfl
theorem lt_some {w : List Nat} {p : Nat} (h0 : 1 ≤ p) (h : p ≤ w.length) : ∃ c, lt w p = some c := by
  obtain ⟨q, rfl⟩ : ∃ q, p = q + 1 := ⟨p - 1, by omega⟩
  rw [lt_succ]
  exact ⟨w[q]'(by omega), List.getElem?_eq_getElem (by omega)⟩
theorem lt_left {w v : List Nat} {p : Nat} (h : p ≤ w.length) : lt (w ++ v) p = lt w p := by
  cases p with
  | zero => rfl
  | succ q => rw [lt_succ, lt_succ, List.getElem?_append_left (by omega)]
theorem lt_right {w v : List Nat} {p : Nat} (h : 1 ≤ p) : lt (w ++ v) (w.length + p) = lt v p := by
  obtain ⟨q, rfl⟩ : ∃ q, p = q + 1 := ⟨p - 1, by omega⟩
  rw [lt_succ, ← Nat.add_assoc, lt_succ, List.getElem?_append_right (by omega)]
  congr 1
  omega
theorem lt_map (f : Nat → Nat) (w : List Nat) (p : Nat) : lt (w.map f) p = (lt w p).map f := by
  cases p with
  | zero => rfl
  | succ q => rw [lt_succ, lt_succ, List.getElem?_map]
theorem lt_rev {w : List Nat} {p : Nat} (h0 : 1 ≤ p) (h : p ≤ w.length) : lt w.reverse (w.length + 1 - p) = lt w p := by
  obtain ⟨q, rfl⟩ : ∃ q, p = q + 1 := ⟨p - 1, by omega⟩
  have e : w.length + 1 - (q + 1) = (w.length - 1 - q) + 1 := by omega
  rw [e, lt_succ, lt_succ, List.getElem?_reverse (by omega)]
  congr 1
  omega

abbrev Prs := List (Nat × Nat)
def Fit (w v : List Nat) (P : Prs) : Prop :=
  ∀ x ∈ P, lt w x.1 = lt v x.2 ∧ ∀ y ∈ P, (x.1 < y.1 ↔ x.2 < y.2) ∧ (x.1 = y.1 ↔ x.2 = y.2)
/-- the second player wins r more rounds -/
def Win : Nat → List Nat → List Nat → Prs → Prop
  | 0, w, v, P => Fit w v P
  | r + 1, w, v, P => (∀ p, p ≤ w.length → ∃ q, q ≤ v.length ∧ Win r w v ((p, q) :: P)) ∧
      (∀ q, q ≤ v.length → ∃ p, p ≤ w.length ∧ Win r w v ((p, q) :: P))

theorem Fit.sub {w v : List Nat} {P R : Prs} (h : Fit w v P) (s : ∀ x ∈ R, x ∈ P) : Fit w v R :=
  fun x hx => ⟨(h x (s x hx)).1, fun y hy => (h x (s x hx)).2 y (s y hy)⟩
theorem Win.sub : ∀ {r : Nat} {w v : List Nat} {P R : Prs}, Win r w v P → (∀ x ∈ R, x ∈ P) → Win r w v R
  | 0, _, _, _, _, h, s => Fit.sub h s
  | r + 1, w, v, P, R, h, s => by
    have s' : ∀ z : Nat × Nat, ∀ x ∈ z :: R, x ∈ z :: P := fun z x hx => by
      rcases List.mem_cons.mp hx with e | e
      · exact List.mem_cons.mpr (Or.inl e)
      · exact List.mem_cons.mpr (Or.inr (s x e))
    refine ⟨fun p hp => ?_, fun q hq => ?_⟩
    · obtain ⟨q, hq, h1⟩ := h.1 p hp
      exact ⟨q, hq, Win.sub h1 (s' _)⟩
    · obtain ⟨p, hp, h1⟩ := h.2 q hq
      exact ⟨p, hp, Win.sub h1 (s' _)⟩
theorem Win.down {r : Nat} {w v : List Nat} {P : Prs} (h : Win (r + 1) w v P) : Win r w v P := by
  obtain ⟨q, _, h1⟩ := h.1 0 (Nat.zero_le _)
  exact Win.sub h1 fun x hx => List.mem_cons_of_mem _ hx
theorem Win.fit : ∀ {r : Nat} {w v : List Nat} {P : Prs}, Win r w v P → Fit w v P
  | 0, _, _, _, h => h
  | _ + 1, _, _, _, h => Win.fit (Win.down h)
theorem Win.le {r s : Nat} {w v : List Nat} {P : Prs} (h : Win r w v P) (hs : s ≤ r) : Win s w v P := by
  obtain ⟨k, rfl⟩ : ∃ k, r = s + k := ⟨r - s, by omega⟩
  clear hs
  induction k with
  | zero => exact h
  | succ k ih => exact ih (Win.down h)

/-! ### the same words; both turned about -/
theorem Fit.diag (w : List Nat) {P : Prs} (h : ∀ x ∈ P, x.1 = x.2) : Fit w w P := fun x hx => by
  refine ⟨by rw [h x hx], fun y hy => ?_⟩
  rw [h x hx, h y hy]
  exact ⟨Iff.rfl, Iff.rfl⟩
theorem Win.diag : ∀ (r : Nat) (w : List Nat) {P : Prs}, (∀ x ∈ P, x.1 = x.2) → Win r w w P
  | 0, w, _, h => Fit.diag w h
  | r + 1, w, P, h => by
    have h' : ∀ p : Nat, ∀ x ∈ (p, p) :: P, x.1 = x.2 := fun p x hx => by
      rcases List.mem_cons.mp hx with e | e
      · rw [e]
      · exact h x e
    exact ⟨fun p hp => ⟨p, hp, Win.diag r w (h' p)⟩, fun p hp => ⟨p, hp, Win.diag r w (h' p)⟩⟩
theorem Win.refl (r : Nat) (w : List Nat) : Win r w w [] := Win.diag r w (fun _ h => nomatch h)
theorem Fit.symm {w v : List Nat} {P R : Prs} (h : Fit w v P) (s : ∀ x ∈ R, (x.2, x.1) ∈ P) : Fit v w R := fun x hx => by
  have a := h _ (s x hx)
  refine ⟨a.1.symm, fun y hy => ?_⟩
  have b := a.2 _ (s y hy)
  exact ⟨b.1.symm, b.2.symm⟩
theorem Win.symm : ∀ {r : Nat} {w v : List Nat} {P R : Prs}, Win r w v P → (∀ x ∈ R, (x.2, x.1) ∈ P) → Win r v w R
  | 0, _, _, _, _, h, s => Fit.symm h s
  | r + 1, w, v, P, R, h, s => by
    have s' : ∀ p q : Nat, ∀ x ∈ (q, p) :: R, (x.2, x.1) ∈ (p, q) :: P := fun p q x hx => by
      rcases List.mem_cons.mp hx with e | e
      · subst e
        exact List.mem_cons_self
      · exact List.mem_cons_of_mem _ (s x e)
    refine ⟨fun p hp => ?_, fun q hq => ?_⟩
    · obtain ⟨q, hq, h1⟩ := h.2 p hp
      exact ⟨q, hq, Win.symm h1 (s' _ _)⟩
    · obtain ⟨p, hp, h1⟩ := h.1 q hq
      exact ⟨p, hp, Win.symm h1 (s' _ _)⟩
theorem Win.symm0 {r : Nat} {w v : List Nat} (h : Win r w v []) : Win r v w [] := Win.symm h fun _ h => nomatch h

/-! ### words put together -/
/-- each pair of Z is one of P, within the fronts, or one of R, behind them -/
def Cmb (n m : Nat) (P R Z : Prs) : Prop := ∀ z ∈ Z, z ∈ P ∨ ∃ x ∈ R, 1 ≤ x.1 ∧ 1 ≤ x.2 ∧ z = (n + x.1, m + x.2)
def Inb (n m : Nat) (P : Prs) : Prop := ∀ x ∈ P, x.1 ≤ n ∧ x.2 ≤ m

theorem Inb.cons {n m p q : Nat} {P : Prs} (h : Inb n m P) (hp : p ≤ n) (hq : q ≤ m) : Inb n m ((p, q) :: P) := fun x hx => by
  rcases List.mem_cons.mp hx with e | e
  · rw [e]; exact ⟨hp, hq⟩
  · exact h x e
theorem Cmb.left {n m : Nat} {P R Z : Prs} (h : Cmb n m P R Z) (y : Nat × Nat) : Cmb n m (y :: P) R (y :: Z) := fun z hz => by
  rcases List.mem_cons.mp hz with e | e
  · exact Or.inl (by rw [e]; exact List.mem_cons_self)
  · rcases h z e with a | a
    · exact Or.inl (List.mem_cons_of_mem _ a)
    · exact Or.inr a
theorem Cmb.right {n m : Nat} {P R Z : Prs} (h : Cmb n m P R Z) {p q : Nat} (hp : 1 ≤ p) (hq : 1 ≤ q) : Cmb n m P ((p, q) :: R) ((n + p, m + q) :: Z) := fun z hz => by
  rcases List.mem_cons.mp hz with e | e
  · exact Or.inr ⟨(p, q), List.mem_cons_self, hp, hq, e⟩
  · rcases h z e with a | ⟨x, hx, h1, h2, h3⟩
    · exact Or.inl a
    · exact Or.inr ⟨x, List.mem_cons_of_mem _ hx, h1, h2, h3⟩

theorem Fit.comp {w v w2 v2 : List Nat} {P R Z : Prs} (h1 : Fit w v P) (h2 : Fit w2 v2 R) (b : Inb w.length v.length P) (c : Cmb w.length v.length P R Z) : Fit (w ++ w2) (v ++ v2) Z := by
  intro z hz
  rcases c z hz with hzP | ⟨x, hx, x1, x2, rfl⟩
  · have bz := b z hzP
    refine ⟨by rw [lt_left bz.1, lt_left bz.2]; exact (h1 z hzP).1, fun y hy => ?_⟩
    rcases c y hy with hyP | ⟨u, hu, u1, u2, rfl⟩
    · exact (h1 z hzP).2 y hyP
    · constructor
      · constructor <;> intro _ <;> dsimp only <;> omega
      · constructor <;> intro _ <;> dsimp only at * <;> omega
  · refine ⟨by rw [lt_right x1, lt_right x2]; exact (h2 x hx).1, fun y hy => ?_⟩
    rcases c y hy with hyP | ⟨u, hu, u1, u2, rfl⟩
    · have byy := b y hyP
      constructor
      · constructor <;> intro _ <;> dsimp only at * <;> omega
      · constructor <;> intro _ <;> dsimp only at * <;> omega
    · have q := (h2 x hx).2 u hu
      have q1 := q.1
      have q2 := q.2
      constructor
      · constructor
        · intro t; have := q1.mp (by dsimp only at t; omega); dsimp only; omega
        · intro t; have := q1.mpr (by dsimp only at t; omega); dsimp only; omega
      · constructor
        · intro t; have := q2.mp (by dsimp only at t; omega); dsimp only; omega
        · intro t; have := q2.mpr (by dsimp only at t; omega); dsimp only; omega
/-- a reply to a place with a letter has a letter -/
theorem Win.pos {r : Nat} {w v : List Nat} {p q : Nat} {P : Prs} (h : Win r w v ((p, q) :: P)) (hp : 1 ≤ p) (hpw : p ≤ w.length) : 1 ≤ q := by
  have f := (Win.fit h (p, q) List.mem_cons_self).1
  obtain ⟨c, hc⟩ := lt_some hp hpw
  rcases Nat.eq_zero_or_pos q with e | e
  · subst e
    rw [show lt w (p, 0).1 = lt w p from rfl, hc] at f
    exact nomatch f
  · exact e
theorem Win.pos' {r : Nat} {w v : List Nat} {p q : Nat} {P : Prs} (h : Win r w v ((p, q) :: P)) (hq : 1 ≤ q) (hqv : q ≤ v.length) : 1 ≤ p :=
  Win.pos (Win.symm (R := (q, p) :: P.map fun x => (x.2, x.1)) h (fun x hx => by
    rcases List.mem_cons.mp hx with e | e
    · subst e
      exact List.mem_cons_self
    · obtain ⟨y, hy, rfl⟩ := List.mem_map.mp e
      exact List.mem_cons_of_mem _ hy)) hq hqv
theorem Win.comp : ∀ {r : Nat} {w v w2 v2 : List Nat} {P R Z : Prs}, Win r w v P → Win r w2 v2 R → Inb w.length v.length P → Cmb w.length v.length P R Z → Win r (w ++ w2) (v ++ v2) Z
  | 0, _, _, _, _, _, _, _, h1, h2, b, c => Fit.comp h1 h2 b c
  | r + 1, w, v, w2, v2, P, R, Z, h1, h2, b, c => by
    refine ⟨fun p hp => ?_, fun q hq => ?_⟩
    · rw [List.length_append] at hp
      by_cases hl : p ≤ w.length
      · obtain ⟨q, hq, h⟩ := h1.1 p hl
        exact ⟨q, by rw [List.length_append]; omega, Win.comp h (Win.down h2) (b.cons hl hq) (c.left _)⟩
      · obtain ⟨q, hq, h⟩ := h2.1 (p - w.length) (by omega)
        have q1 : 1 ≤ q := Win.pos h (by omega) (by omega)
        have e : p = w.length + (p - w.length) := by omega
        refine ⟨v.length + q, by rw [List.length_append]; omega, ?_⟩
        have k := Win.comp (Win.down h1) h b (Cmb.right c (p := p - w.length) (q := q) (by omega) q1)
        rw [← e] at k
        exact k
    · rw [List.length_append] at hq
      by_cases hl : q ≤ v.length
      · obtain ⟨p, hp, h⟩ := h1.2 q hl
        exact ⟨p, by rw [List.length_append]; omega, Win.comp h (Win.down h2) (b.cons hp hl) (c.left _)⟩
      · obtain ⟨p, hp, h⟩ := h2.2 (q - v.length) (by omega)
        have p1 : 1 ≤ p := Win.pos' h (by omega) (by omega)
        have e : q = v.length + (q - v.length) := by omega
        refine ⟨w.length + p, by rw [List.length_append]; omega, ?_⟩
        have k := Win.comp (Win.down h1) h b (Cmb.right c (p := p) (q := q - v.length) p1 (by omega))
        rw [← e] at k
        exact k
theorem Win.app {r : Nat} {w v w2 v2 : List Nat} (h1 : Win r w v []) (h2 : Win r w2 v2 []) : Win r (w ++ w2) (v ++ v2) [] :=
  Win.comp h1 h2 (fun _ h => nomatch h) (fun _ h => nomatch h)
/-- place 0 of both words may stand among the pairs -/
theorem Win.zero {r : Nat} {w v : List Nat} {P Z : Prs} (h : Win r w v P) (b : Inb w.length v.length P) (hz : ∀ z ∈ Z, z = (0, 0) ∨ z ∈ P) : Win r w v Z := by
  have k := Win.comp (w := []) (v := []) (P := [(0, 0)]) (Z := Z) (Win.diag r [] (fun x hx => by rw [List.mem_singleton.mp hx])) h (fun x hx => by rw [List.mem_singleton.mp hx]; exact ⟨Nat.le_refl _, Nat.le_refl _⟩) ?_
  · exact k
  · intro z hzz
    rcases hz z hzz with e | e
    · exact Or.inl (List.mem_singleton.mpr e)
    · have f := (Win.fit h z e).1
      have bz := b z e
      rcases Nat.eq_zero_or_pos z.1 with e1 | e1
      · rcases Nat.eq_zero_or_pos z.2 with e2 | e2
        · exact Or.inl (List.mem_singleton.mpr (by rw [← e1]; exact Prod.ext rfl (e2.trans e1.symm)))
        · obtain ⟨c, hc⟩ := lt_some e2 bz.2
          rw [e1, hc] at f
          exact nomatch f
      · rcases Nat.eq_zero_or_pos z.2 with e2 | e2
        · obtain ⟨c, hc⟩ := lt_some e1 bz.1
          rw [e2, hc] at f
          exact nomatch f
        · exact Or.inr ⟨z, e, e1, e2, by rw [List.length_nil, Nat.zero_add, Nat.zero_add]⟩

/-! ### words again and again -/
def rep (v : List Nat) : Nat → List Nat
  | 0 => []
  | n + 1 => v ++ rep v n
theorem rep_length (v : List Nat) : ∀ n, (rep v n).length = n * v.length
  | 0 => by rw [Nat.zero_mul]; rfl
  | n + 1 => by
    show (v ++ rep v n).length = _
    rw [List.length_append, rep_length v n, Nat.succ_mul, Nat.add_comm]
theorem rep_add (v : List Nat) : ∀ n m, rep v (n + m) = rep v n ++ rep v m
  | 0, m => by rw [Nat.zero_add]; rfl
  | n + 1, m => by
    rw [Nat.succ_add]
    show v ++ rep v (n + m) = (v ++ rep v n) ++ rep v m
    rw [rep_add v n m, List.append_assoc]
theorem rep_nil : ∀ n, rep [] n = []
  | 0 => rfl
  | n + 1 => by show [] ++ rep [] n = []; rw [rep_nil n]; rfl

/-- one move into v ^ (i + 1 + k), answered in v ^ (j + 1 + l) -/
theorem move {r : Nat} {v : List Nat} {i k j l p : Nat} (h1 : Win r (rep v i) (rep v j) []) (h2 : Win r (rep v k) (rep v l) []) (hp : 1 ≤ p) (hpv : p ≤ v.length) :
    Win r (rep v (i + 1 + k)) (rep v (j + 1 + l)) [(i * v.length + p, j * v.length + p)] := by
  have m : Win r (v ++ rep v k) (v ++ rep v l) [(p, p)] := Win.comp (P := [(p, p)]) (R := []) (Win.diag r v (fun x hx => by rw [List.mem_singleton.mp hx])) h2
    (fun x hx => by rw [List.mem_singleton.mp hx]; exact ⟨hpv, hpv⟩) (fun z hz => Or.inl hz)
  have q := Win.comp (P := []) (R := [(p, p)]) (Z := [(i * v.length + p, j * v.length + p)]) h1 m (fun _ h => nomatch h) (fun z hz => Or.inr ⟨(p, p), List.mem_singleton.mpr rfl, hp, hp, by
    rw [List.mem_singleton.mp hz, rep_length, rep_length]⟩)
  have e1 : rep v (i + 1 + k) = rep v i ++ (v ++ rep v k) := by rw [Nat.add_assoc, rep_add, Nat.add_comm 1 k]; rfl
  have e2 : rep v (j + 1 + l) = rep v j ++ (v ++ rep v l) := by rw [Nat.add_assoc, rep_add, Nat.add_comm 1 l]; rfl
  rw [e1, e2]
  exact q
theorem pow_pred (r : Nat) : 2 ^ (r + 1) - 1 = (2 ^ r - 1) + 1 + (2 ^ r - 1) := by
  have h : 1 ≤ 2 ^ r := Nat.one_le_two_pow
  rw [Nat.pow_succ]
  omega
/-- the copies on both sides of the copy that was met -/
theorem split {t i k m : Nat} (h1 : t + 1 + t ≤ i + 1 + k) (h2 : t + 1 + t ≤ m) : ∃ j l, m = j + 1 + l ∧ (i = j ∨ t ≤ i ∧ t ≤ j) ∧ (k = l ∨ t ≤ k ∧ t ≤ l) := by
  by_cases hi : i < t
  · exact ⟨i, m - 1 - i, by omega, Or.inl rfl, Or.inr ⟨by omega, by omega⟩⟩
  · by_cases hk : k < t
    · exact ⟨m - 1 - k, k, by omega, Or.inr ⟨by omega, by omega⟩, Or.inl rfl⟩
    · exact ⟨t, m - 1 - t, by omega, Or.inr ⟨by omega, by omega⟩, Or.inr ⟨by omega, by omega⟩⟩
/-- a place of v ^ n, from 1 on: a copy and a place in it -/
theorem in_copy {n d p : Nat} (hp : 1 ≤ p) (hn : p ≤ n * d) : ∃ i k u, n = i + 1 + k ∧ 1 ≤ u ∧ u ≤ d ∧ p = i * d + u := by
  have d0 : 0 < d := by
    rcases Nat.eq_zero_or_pos d with e | e
    · rw [e, Nat.mul_zero] at hn; omega
    · exact e
  have e := Nat.div_add_mod (p - 1) d
  have l := Nat.mod_lt (p - 1) d0
  have hi : (p - 1) / d < n := (Nat.div_lt_iff_lt_mul d0).mpr (by omega)
  refine ⟨(p - 1) / d, n - 1 - (p - 1) / d, (p - 1) % d + 1, by omega, by omega, by omega, ?_⟩
  rw [Nat.mul_comm] at e
  omega
theorem half {r : Nat} {v : List Nat} (ih : ∀ n m, (n = m ∨ 2 ^ r - 1 ≤ n ∧ 2 ^ r - 1 ≤ m) → Win r (rep v n) (rep v m) []) {n m p : Nat} (h : 2 ^ (r + 1) - 1 ≤ n ∧ 2 ^ (r + 1) - 1 ≤ m) (hp : p ≤ (rep v n).length) :
    ∃ q, q ≤ (rep v m).length ∧ Win r (rep v n) (rep v m) [(p, q)] := by
  rw [pow_pred] at h
  rcases Nat.eq_zero_or_pos p with e | e
  · refine ⟨0, Nat.zero_le _, ?_⟩
    subst e
    exact Win.zero (P := []) (ih n m (Or.inr ⟨by omega, by omega⟩)) (fun _ h => nomatch h) (fun z hz => Or.inl (List.mem_singleton.mp hz))
  · rw [rep_length] at hp
    obtain ⟨i, k, u, rfl, u1, u2, rfl⟩ := in_copy e hp
    obtain ⟨j, l, rfl, hij, hkl⟩ := split h.1 h.2
    refine ⟨j * v.length + u, ?_, move (ih i j hij) (ih k l hkl) u1 u2⟩
    rw [rep_length, Nat.add_mul, Nat.add_mul]
    omega
theorem repeats (v : List Nat) : ∀ (r n m : Nat), (n = m ∨ 2 ^ r - 1 ≤ n ∧ 2 ^ r - 1 ≤ m) → Win r (rep v n) (rep v m) []
  | r, n, m, .inl e => by subst e; exact Win.refl r _
  | 0, _, _, .inr _ => fun x hx => nomatch hx
  | r + 1, n, m, .inr h => by
    refine ⟨fun p hp => half (repeats v r) h hp, fun q hq => ?_⟩
    obtain ⟨p, hp, k⟩ := half (n := m) (m := n) (repeats v r) ⟨h.2, h.1⟩ hq
    exact ⟨p, hp, Win.symm k (fun x hx => by rw [List.mem_singleton.mp hx]; exact List.mem_singleton.mpr rfl)⟩

/-! ### the parts ahead of a pair and behind it -/
theorem Win.ahead : ∀ {r : Nat} {w v w2 v2 : List Nat} {P Z : Prs}, Win r (w ++ w2) (v ++ v2) Z → (w.length + 1, v.length + 1) ∈ Z → (∀ x ∈ P, x ∈ Z) → Inb w.length v.length P → Win r w v P
  | 0, w, v, w2, v2, P, Z, h, hm, s, b => fun x hx => by
    have f := h x (s x hx)
    have bx := b x hx
    refine ⟨?_, fun y hy => f.2 y (s y hy)⟩
    have f1 := f.1
    rw [lt_left bx.1, lt_left bx.2] at f1
    exact f1
  | r + 1, w, v, w2, v2, P, Z, h, hm, s, b => by
    have s' : ∀ z : Nat × Nat, ∀ x ∈ z :: P, x ∈ z :: Z := fun z x hx => by
      rcases List.mem_cons.mp hx with e | e
      · exact List.mem_cons.mpr (Or.inl e)
      · exact List.mem_cons_of_mem _ (s x e)
    refine ⟨fun p hp => ?_, fun q hq => ?_⟩
    · obtain ⟨q, hq, k⟩ := h.1 p (by rw [List.length_append]; omega)
      have o := ((Win.fit k (p, q) List.mem_cons_self).2 _ (List.mem_cons_of_mem _ hm)).1
      have hq' : q ≤ v.length := Nat.le_of_lt_succ (o.mp (Nat.lt_succ_of_le hp))
      exact ⟨q, hq', Win.ahead k (List.mem_cons_of_mem _ hm) (s' _) (b.cons hp hq')⟩
    · obtain ⟨p, hp, k⟩ := h.2 q (by rw [List.length_append]; omega)
      have o := ((Win.fit k (p, q) List.mem_cons_self).2 _ (List.mem_cons_of_mem _ hm)).1
      have hp' : p ≤ w.length := Nat.le_of_lt_succ (o.mpr (Nat.lt_succ_of_le hq))
      exact ⟨p, hp', Win.ahead k (List.mem_cons_of_mem _ hm) (s' _) (b.cons hp' hq)⟩
theorem Win.behind : ∀ {r : Nat} {w v w2 v2 : List Nat} {P Z : Prs}, Win r (w ++ w2) (v ++ v2) Z → (w.length, v.length) ∈ Z → (∀ x ∈ P, (w.length + x.1, v.length + x.2) ∈ Z) → Win r w2 v2 P
  | 0, w, v, w2, v2, P, Z, h, hm, s => fun x hx => by
    have f := h _ (s x hx)
    have g := (h _ hm).2 _ (s x hx)
    have g2 := g.2
    refine ⟨?_, fun y hy => ?_⟩
    · have f1 := f.1
      rcases Nat.eq_zero_or_pos x.1 with e | e
      · have : x.2 = 0 := by
          have := g2.mp (by dsimp only; omega)
          dsimp only at this
          omega
        rw [e, this]
        rfl
      · have e2 : 1 ≤ x.2 := by
          rcases Nat.eq_zero_or_pos x.2 with z | z
          · have := g2.mpr (by dsimp only; omega)
            dsimp only at this
            omega
          · exact z
        rw [lt_right e, lt_right e2] at f1
        exact f1
    · have q := f.2 _ (s y hy)
      have q1 := q.1
      have q2 := q.2
      constructor
      · constructor
        · intro t; have := q1.mp (by dsimp only; omega); dsimp only at this; omega
        · intro t; have := q1.mpr (by dsimp only; omega); dsimp only at this; omega
      · constructor
        · intro t; have := q2.mp (by dsimp only; omega); dsimp only at this; omega
        · intro t; have := q2.mpr (by dsimp only; omega); dsimp only at this; omega
  | r + 1, w, v, w2, v2, P, Z, h, hm, s => by
    have s' : ∀ p q : Nat, ∀ x ∈ (p, q) :: P, (w.length + x.1, v.length + x.2) ∈ (w.length + p, v.length + q) :: Z := fun p q x hx => by
      rcases List.mem_cons.mp hx with e | e
      · rw [e]; exact List.mem_cons_self
      · exact List.mem_cons_of_mem _ (s x e)
    refine ⟨fun p hp => ?_, fun q hq => ?_⟩
    · obtain ⟨q, hq, k⟩ := h.1 (w.length + p) (by rw [List.length_append]; omega)
      have o := ((Win.fit k _ List.mem_cons_self).2 _ (List.mem_cons_of_mem _ hm)).1
      have hq' : v.length ≤ q := by
        rcases Nat.lt_or_ge q v.length with a | a
        · have := o.mpr a
          dsimp only at this
          omega
        · exact a
      rw [List.length_append] at hq
      obtain ⟨u, rfl⟩ : ∃ u, q = v.length + u := ⟨q - v.length, by omega⟩
      exact ⟨u, by omega, Win.behind k (List.mem_cons_of_mem _ hm) (s' _ _)⟩
    · obtain ⟨p, hp, k⟩ := h.2 (v.length + q) (by rw [List.length_append]; omega)
      have o := ((Win.fit k _ List.mem_cons_self).2 _ (List.mem_cons_of_mem _ hm)).1
      have hp' : w.length ≤ p := by
        rcases Nat.lt_or_ge p w.length with a | a
        · have := o.mp a
          dsimp only at this
          omega
        · exact a
      rw [List.length_append] at hp
      obtain ⟨u, rfl⟩ : ∃ u, p = w.length + u := ⟨p - w.length, by omega⟩
      exact ⟨u, by omega, Win.behind k (List.mem_cons_of_mem _ hm) (s' _ _)⟩

/-! ### one letter -/
theorem one_letter_step {r c : Nat} (ih : ∀ n m, Win r (rep [c] n) (rep [c] m) [] → n = m ∨ 2 ^ r - 1 ≤ n ∧ 2 ^ r - 1 ≤ m) {n m : Nat} (h : Win (r + 1) (rep [c] n) (rep [c] m) []) (hlt : n < m) : 2 ^ (r + 1) - 1 ≤ n := by
  rw [pow_pred]
  have len : ∀ k, (rep [c] k).length = k := fun k => by rw [rep_length, List.length_singleton, Nat.mul_one]
  -- the longer word's place with min(t, ..) letters ahead of it
  have go : ∀ a, a < m → ∃ b, b < n ∧ (b = a ∨ 2 ^ r - 1 ≤ b ∧ 2 ^ r - 1 ≤ a) ∧ (n - 1 - b = m - 1 - a ∨ 2 ^ r - 1 ≤ n - 1 - b ∧ 2 ^ r - 1 ≤ m - 1 - a) := by
    intro a ha
    obtain ⟨p, hp, k⟩ := h.2 (a + 1) (by rw [len]; omega)
    have p1 : 1 ≤ p := Win.pos' k (by omega) (by rw [len]; omega)
    rw [len] at hp
    obtain ⟨b, rfl⟩ : ∃ b, p = b + 1 := ⟨p - 1, by omega⟩
    refine ⟨b, by omega, ?_, ?_⟩
    · have e1 : rep [c] n = rep [c] b ++ rep [c] (n - b) := by rw [← rep_add]; congr 1; omega
      have e2 : rep [c] m = rep [c] a ++ rep [c] (m - a) := by rw [← rep_add]; congr 1; omega
      rw [e1, e2] at k
      exact ih b a (Win.ahead (P := []) k (by rw [len, len]; exact List.mem_cons_self) (fun _ h => nomatch h) (fun _ h => nomatch h))
    · have e1 : rep [c] n = rep [c] (b + 1) ++ rep [c] (n - 1 - b) := by rw [← rep_add]; congr 1; omega
      have e2 : rep [c] m = rep [c] (a + 1) ++ rep [c] (m - 1 - a) := by rw [← rep_add]; congr 1; omega
      rw [e1, e2] at k
      exact ih _ _ (Win.behind (P := []) k (by rw [len, len]; exact List.mem_cons_self) (fun _ h => nomatch h))
  generalize 2 ^ r - 1 = t at *
  by_cases hm : t + 1 + t ≤ m
  · obtain ⟨b, h1, h2, h3⟩ := go t (by omega)
    omega
  · obtain ⟨b, h1, h2, h3⟩ := go (min (t - 1) (m - 1)) (by omega)
    omega
theorem one_letter (c : Nat) : ∀ r n m, Win r (rep [c] n) (rep [c] m) [] → n = m ∨ 2 ^ r - 1 ≤ n ∧ 2 ^ r - 1 ≤ m
  | 0, n, m, _ => Or.inr ⟨Nat.zero_le _, Nat.zero_le _⟩
  | r + 1, n, m, h => by
    rcases Nat.lt_trichotomy n m with e | e | e
    · have q := one_letter_step (one_letter c r) h e
      exact Or.inr ⟨q, by omega⟩
    · exact Or.inl e
    · have q := one_letter_step (one_letter c r) (Win.symm0 h) e
      exact Or.inr ⟨by omega, q⟩
theorem one_letter_iff (c r n m : Nat) : Win r (rep [c] n) (rep [c] m) [] ↔ n = m ∨ 2 ^ r - 1 ≤ n ∧ 2 ^ r - 1 ≤ m := ⟨one_letter c r n m, repeats [c] r n m⟩

/-! ### read from the end; other letters -/
def rv (n p : Nat) : Nat := if p = 0 then 0 else n + 1 - p
theorem rv_le (n p : Nat) : rv n p ≤ n := by unfold rv; split <;> omega
theorem rv_rv {n p : Nat} (h : p ≤ n) : rv n (rv n p) = p := by
  unfold rv
  by_cases e : p = 0
  · rw [if_pos e, if_pos rfl, e]
  · rw [if_neg e, if_neg (by omega)]; omega
theorem lt_rv {w : List Nat} {p : Nat} (h : p ≤ w.length) : lt w.reverse (rv w.length p) = lt w p := by
  unfold rv
  split
  · rename_i e; rw [e]; rfl
  · exact lt_rev (by omega) h
theorem Fit.rev {w v : List Nat} {P Z : Prs} (h : Fit w v P) (b : Inb w.length v.length P) (s : ∀ z ∈ Z, ∃ x ∈ P, z = (rv w.length x.1, rv v.length x.2)) : Fit w.reverse v.reverse Z := by
  have nz : ∀ x ∈ P, x.1 = 0 ↔ x.2 = 0 := fun x hx => by
    have f := (h x hx).1
    have bx := b x hx
    constructor
    · intro e
      rcases Nat.eq_zero_or_pos x.2 with z | z
      · exact z
      · obtain ⟨c, hc⟩ := lt_some z bx.2
        rw [e, hc] at f
        exact nomatch f
    · intro e
      rcases Nat.eq_zero_or_pos x.1 with z | z
      · exact z
      · obtain ⟨c, hc⟩ := lt_some z bx.1
        rw [e, hc] at f
        exact nomatch f
  intro z hz
  obtain ⟨x, hx, rfl⟩ := s z hz
  have bx := b x hx
  have nx := nz x hx
  refine ⟨by dsimp only; rw [lt_rv bx.1, lt_rv bx.2]; exact (h x hx).1, fun y hy => ?_⟩
  obtain ⟨u, hu, rfl⟩ := s y hy
  have bu := b u hu
  have nu := nz u hu
  have q1 := ((h x hx).2 u hu).1
  have q2 := ((h x hx).2 u hu).2
  have q3 := ((h u hu).2 x hx).1
  dsimp only
  unfold rv
  constructor
  · split <;> split <;> split <;> split <;> constructor <;> intro t <;> omega
  · split <;> split <;> split <;> split <;> constructor <;> intro t <;> omega
theorem Win.rev : ∀ {r : Nat} {w v : List Nat} {P Z : Prs}, Win r w v P → Inb w.length v.length P → (∀ z ∈ Z, ∃ x ∈ P, z = (rv w.length x.1, rv v.length x.2)) → Win r w.reverse v.reverse Z
  | 0, _, _, _, _, h, b, s => Fit.rev h b s
  | r + 1, w, v, P, Z, h, b, s => by
    have s' : ∀ p q : Nat, ∀ z ∈ (rv w.length p, rv v.length q) :: Z, ∃ x ∈ (p, q) :: P, z = (rv w.length x.1, rv v.length x.2) := fun p q z hz => by
      rcases List.mem_cons.mp hz with e | e
      · exact ⟨(p, q), List.mem_cons_self, e⟩
      · obtain ⟨x, hx, e2⟩ := s z e
        exact ⟨x, List.mem_cons_of_mem _ hx, e2⟩
    refine ⟨fun p hp => ?_, fun q hq => ?_⟩
    · rw [List.length_reverse] at hp
      obtain ⟨q, hq, k⟩ := h.1 (rv w.length p) (rv_le _ _)
      refine ⟨rv v.length q, by rw [List.length_reverse]; exact rv_le _ _, ?_⟩
      have z := Win.rev k (b.cons (rv_le _ _) hq) (s' _ _)
      rw [rv_rv hp] at z
      exact z
    · rw [List.length_reverse] at hq
      obtain ⟨p, hp, k⟩ := h.2 (rv v.length q) (rv_le _ _)
      refine ⟨rv w.length p, by rw [List.length_reverse]; exact rv_le _ _, ?_⟩
      have z := Win.rev k (b.cons hp (rv_le _ _)) (s' _ _)
      rw [rv_rv hq] at z
      exact z
theorem Win.rev0 {r : Nat} {w v : List Nat} (h : Win r w v []) : Win r w.reverse v.reverse [] := Win.rev (P := []) h (fun _ h => nomatch h) (fun _ h => nomatch h)
theorem win_rev (r : Nat) (w v : List Nat) : Win r w.reverse v.reverse [] ↔ Win r w v [] :=
  ⟨fun h => by have := Win.rev0 h; rwa [List.reverse_reverse, List.reverse_reverse] at this, Win.rev0⟩
theorem Win.map (f : Nat → Nat) : ∀ {r : Nat} {w v : List Nat} {P : Prs}, Win r w v P → Win r (w.map f) (v.map f) P
  | 0, _, _, _, h => fun x hx => ⟨by rw [lt_map, lt_map, (h x hx).1], (h x hx).2⟩
  | r + 1, w, v, P, h => by
    refine ⟨fun p hp => ?_, fun q hq => ?_⟩
    · rw [List.length_map] at hp
      obtain ⟨q, hq, k⟩ := h.1 p hp
      exact ⟨q, by rw [List.length_map]; exact hq, Win.map f k⟩
    · rw [List.length_map] at hq
      obtain ⟨p, hp, k⟩ := h.2 q hq
      exact ⟨p, by rw [List.length_map]; exact hp, Win.map f k⟩
/-- letters exchanged and exchanged back -/
theorem win_map {f g : Nat → Nat} {w v : List Nat} (hg : ∀ c, c ∈ w ∨ c ∈ v → g (f c) = c) (r : Nat) : Win r (w.map f) (v.map f) [] ↔ Win r w v [] := by
  refine ⟨fun h => ?_, Win.map f⟩
  have k := Win.map g h
  have e1 : (w.map f).map g = w := by
    rw [List.map_map]
    exact (List.map_congr_left (fun c hc => hg c (Or.inl hc))).trans (List.map_id _)
  have e2 : (v.map f).map g = v := by
    rw [List.map_map]
    exact (List.map_congr_left (fun c hc => hg c (Or.inr hc))).trans (List.map_id _)
  rw [e1, e2] at k
  exact k
end GM

set_option Elab.async false
set_option linter.all false
set_option maxRecDepth 100000
set_option maxHeartbeats 4000000
/-! Dicts whose keys are tuples of ints, texts, and tuples of ints and texts. -/
namespace NK
open PySem PySem.Spec PyProof.Rows L2

abbrev Itm := Sum Key (List Key)
section
variable (P : Program) (w : World)
def itmIs (h : Heap) : Itm → Value → Prop
  | .inl k, v => keyIs k v = true
  | .inr ks, v => ∃ a, v = .ref a ∧ IsTupleKey (mixKind P w) h ks a
def IsN (h : Heap) (ks : List Itm) (a : Addr) : Prop := ∃ o items n, h.get? a = some o ∧ o.cls = .type "tuple" ∧ o.data = .seq items n ∧ Paired (itmIs P w h) ks items.toList
def itmH : Itm → Int
  | .inl k => keyH w k
  | .inr ks => tupleKeyHash (mixKind P w) ks
def itmD : Itm → Nat
  | .inl _ => 1
  | .inr ks => ks.length + 1
def nkD : List Itm → Nat
  | [] => 1
  | i :: r => itmD i + nkD r
def nkH (ks : List Itm) : Int := reduceHash (Builtin.Tuple.tupleHashOf (ks.map (itmH P w)))
end

section
variable {P : Program} {w : World} {h : Heap}
theorem itm_inj {x y : Itm} {v : Value} (hx : itmIs P w h x v) (hy : itmIs P w h y v) : x = y := by
  cases x with
  | inl k =>
    cases y with
    | inl j => rw [(mixKind P w).inj v k j hx hy]
    | inr js =>
      obtain ⟨a, rfl, _⟩ := hy
      rcases keyIs_shape hx with ⟨i, t, _, e⟩ | ⟨z, t, _, e⟩ <;> cases e
  | inr ks =>
    obtain ⟨a, rfl, ha⟩ := hx
    cases y with
    | inl j => rcases keyIs_shape hy with ⟨i, t, _, e⟩ | ⟨z, t, _, e⟩ <;> cases e
    | inr js =>
      obtain ⟨b, e, hb⟩ := hy
      cases e
      rw [ha.inj hb]
theorem itms_inj {vs : List Value} : ∀ {x y : List Itm}, Paired (itmIs P w h) x vs → Paired (itmIs P w h) y vs → x = y := by
  induction vs with
  | nil => intro x y hx hy; cases hx; cases hy; rfl
  | cons v vs ih =>
    intro x y hx hy
    cases hx with
    | cons h1 t1 =>
      cases hy with
      | cons h2 t2 => rw [itm_inj h1 h2, ih t1 t2]
theorem IsN.inj {x y : List Itm} {a : Addr} (hx : IsN P w h x a) (hy : IsN P w h y a) : x = y := by
  obtain ⟨o, items, n, ho, _, hd, hi⟩ := hx
  obtain ⟨o', items', n', ho', _, hd', hi'⟩ := hy
  obtain rfl : o = o' := Option.some.inj (ho.symm.trans ho')
  rw [hd] at hd'
  injection hd' with h1 _
  subst h1
  exact itms_inj hi hi'
theorem IsN.typeIs {s : Shared} {ks : List Itm} {a : Addr} (x : IsN P w s.heap ks a) : s.TypeIs (.ref a) "tuple" := let ⟨o, _, _, ho, hc, _⟩ := x; ⟨o, ho, hc⟩
theorem itm_keeps {h' : Heap} {d : Addr} {o : Obj} {es ep} (ho : h.get? d = some o) (hd : o.data = .dict es ep) (hs : Heap.SameBut d h h') : ∀ {k : Itm} {v : Value}, itmIs P w h k v → itmIs P w h' k v
  | .inl _, _, x => x
  | .inr _, _, ⟨a, e, x⟩ => ⟨a, e, x.keeps ho hd hs⟩
theorem IsN.keeps {h' : Heap} {ks : List Itm} {a d : Addr} {o : Obj} {es ep} (x : IsN P w h ks a) (ho : h.get? d = some o) (hd : o.data = .dict es ep) (hs : Heap.SameBut d h h') : IsN P w h' ks a := by
  obtain ⟨o', items, n, ho', hc, hd', hi⟩ := x
  have hne : a ≠ d := by
    rintro rfl
    obtain rfl : o' = o := Option.some.inj (ho'.symm.trans ho)
    rw [hd] at hd'; exact nomatch hd'
  exact ⟨o', items, n, (hs.2 a hne).trans ho', hc, hd', Paired.mapP hi fun _ _ z => itm_keeps ho hd hs z⟩
end

section
variable {P : Program} {w : World} {A : Around} {E : Value → Shared → Prop} {s : Shared}
theorem itm_hash {k : Itm} {v : Value} {Q : Int → Shared → Prop} (hu : A.units + 1 < cLine) (hk : itmIs P w s.heap k v) (h : Q (itmH P w k) { s with toks := s.toks + itmD k }) :
    wpAny (model P w) A (pyHash v) Q E s := by
  cases k with
  | inl k => exact (mixKind P w).pyHash hk h
  | inr ks =>
    obtain ⟨a, rfl, ha⟩ := hk
    exact wpAny_pyHash_tuple (by omega) ha h
theorem isTuple_of {ks : List Key} {a : Addr} (x : IsTupleKey (mixKind P w) s.heap ks a) : ∃ items, s.heap.IsTuple a items := by
  obtain ⟨o, items, n, ho, hc, hd, _⟩ := x
  exact ⟨items, o, ho, hc, n, hd⟩
theorem itm_eq {x y : Itm} {u v : Value} {Q : Bool → Shared → Prop} (hu : A.units + 1 < cLine) (hx : itmIs P w s.heap x u) (hy : itmIs P w s.heap y v) (h : Q (decide (x = y)) s) :
    wpAny (model P w) A (eqBool u v) Q E s := by
  cases x with
  | inl k =>
    cases y with
    | inl j =>
      refine (mixKind P w).eqBool (a := k) (b := j) hx hy ?_
      have e : decide ((Sum.inl k : Itm) = Sum.inl j) = decide (k = j) := by
        by_cases e : k = j
        · subst e; rw [decide_eq_true rfl, decide_eq_true rfl]
        · rw [decide_eq_false e, decide_eq_false (fun z => e (Sum.inl.inj z))]
      rw [← e]; exact h
    | inr js =>
      obtain ⟨a, rfl, ha⟩ := hy
      obtain ⟨items, hi⟩ := isTuple_of ha
      have e : decide ((Sum.inl k : Itm) = Sum.inr js) = false := decide_eq_false (fun q => nomatch q)
      rw [e] at h
      rcases keyIs_shape hx with ⟨i, t, _, rfl⟩ | ⟨z, t, _, rfl⟩
      · exact SeqAt.EqAt.int_tuple i t hi (by omega) P w E Q h
      · exact SeqAt.EqAt.str_tuple z t hi (by omega) P w E Q h
  | inr ks =>
    obtain ⟨a, rfl, ha⟩ := hx
    cases y with
    | inl j =>
      obtain ⟨items, hi⟩ := isTuple_of ha
      have e : decide ((Sum.inr ks : Itm) = Sum.inl j) = false := decide_eq_false (fun q => nomatch q)
      rw [e] at h
      rcases keyIs_shape hy with ⟨i, t, _, rfl⟩ | ⟨z, t, _, rfl⟩
      · exact SeqAt.EqAt.tuple_int i t hi (by omega) P w E Q h
      · exact SeqAt.EqAt.tuple_str z t hi (by omega) P w E Q h
    | inr js =>
      obtain ⟨b, rfl, hb⟩ := hy
      refine wpAny_eqBool_tuple (by omega) ha hb ?_
      have e : decide ((Sum.inr ks : Itm) = Sum.inr js) = decide (ks = js) := by
        by_cases e : ks = js
        · subst e; rw [decide_eq_true rfl, decide_eq_true rfl]
        · rw [decide_eq_false e, decide_eq_false (fun z => e (Sum.inr.inj z))]
      rw [← e]; exact h
theorem itm_quiet {k : Itm} {v : Value} {n : Nat} {Q : Bool → Shared → Prop} (hk : itmIs P w s.heap k v) (h : Q true s) : wpAny (model P w) A (eqIsQuiet (n + 1) v) Q E s := by
  cases k with
  | inl k =>
    rw [eqIsQuiet_byValue _ ((mixKind P w).byValue k v hk)]
    exact wpAny_pure h
  | inr ks =>
    obtain ⟨a, rfl, hk⟩ := hk
    have hT := hk.typeIs
    obtain ⟨o, items, m, ho, _, hd, hi⟩ := hk
    unfold eqIsQuiet
    refine wpAny_bind (wpAny_specialOf hT F.slot_tuple_eq.lookup ?_)
    show wpAny _ _ (isInstance (.ref a) (.type "tuple") >>= _) _ _ s
    refine wpAny_bind (wpAny_isInstance hT isSubtype_tuple_tuple ?_)
    simp only [Bool.not_true, Bool.false_eq_true, if_false]
    refine wpAny_bind (wpAny_seqItems ho hd ?_)
    refine wpAny_bind ?_
    show wpAny _ _ (forIn items _ _) _ _ s
    rw [← Array.forIn_toList]
    refine wpAny_forIn_list _ (fun rest r s' => r.1 = none ∧ s' = s ∧ ∀ v ∈ rest, carriedByValue v = true) _ ?_ ?_ _ _ ⟨rfl, rfl, hi.byValue⟩
    · rintro v rest r s' ⟨hr, rfl, hall⟩
      rw [eqIsQuiet_byValue _ (hall v List.mem_cons_self)]
      refine wpAny_bind (wpAny_pure ?_)
      simp only [Bool.not_true, Bool.false_eq_true, if_false]
      exact wpAny_pure ⟨rfl, rfl, fun u hu' => hall u (List.mem_cons_of_mem _ hu')⟩
    · rintro ⟨r1, r2⟩ s' ⟨hr, rfl, _⟩
      simp only at hr
      subst hr
      exact wpAny_pure h
theorem nk_quiet {ks : List Itm} {a : Addr} {Q : Bool → Shared → Prop} (hk : IsN P w s.heap ks a) (h : Q true s) : wpAny (model P w) A (eqIsQuiet 8 (.ref a)) Q E s := by
  have hT := hk.typeIs
  obtain ⟨o, items, m, ho, _, hd, hi⟩ := hk
  unfold eqIsQuiet
  refine wpAny_bind (wpAny_specialOf hT F.slot_tuple_eq.lookup ?_)
  show wpAny _ _ (isInstance (.ref a) (.type "tuple") >>= _) _ _ s
  refine wpAny_bind (wpAny_isInstance hT isSubtype_tuple_tuple ?_)
  simp only [Bool.not_true, Bool.false_eq_true, if_false]
  refine wpAny_bind (wpAny_seqItems ho hd ?_)
  refine wpAny_bind ?_
  show wpAny _ _ (forIn items _ _) _ _ s
  rw [← Array.forIn_toList]
  refine wpAny_forIn_list _ (fun rest r s' => r.1 = none ∧ s' = s ∧ ∃ left, Paired (itmIs P w s.heap) left rest) _ ?_ ?_ _ _ ⟨rfl, rfl, ks, hi⟩
  · rintro v rest r s' ⟨hr, rfl, left, hl⟩
    cases hl with
    | cons h1 t1 =>
      refine wpAny_bind (itm_quiet h1 ?_)
      simp only [Bool.not_true, Bool.false_eq_true, if_false]
      exact wpAny_pure ⟨rfl, rfl, _, t1⟩
  · rintro ⟨r1, r2⟩ s' ⟨hr, rfl, _⟩
    simp only at hr
    subst hr
    exact wpAny_pure h
theorem nkD_snoc (k : Itm) : ∀ ks : List Itm, nkD (ks ++ [k]) = nkD ks + itmD k
  | [] => by show itmD k + 1 = 1 + itmD k; omega
  | i :: r => by show itmD i + nkD (r ++ [k]) = itmD i + nkD r + itmD k; rw [nkD_snoc k r]; omega
theorem nk_hash {ks : List Itm} {a : Addr} {Q : Int → Shared → Prop} (hu : A.units + 8 < cLine) (hk : IsN P w s.heap ks a) (h : Q (nkH P w ks) { s with toks := s.toks + nkD ks }) :
    wpAny (model P w) A (pyHash (.ref a)) Q E s := by
  have hT := hk.typeIs
  obtain ⟨o, items, n, ho, _, hd, hi⟩ := hk
  unfold pyHash
  first | unfold pyHashByItsType | skip
  first | refine wpAny_bind (wpAny_cRoomFor_or (.inr (by omega)) ?_) | skip
  refine wpAny_bind (wpAny_specialOf hT F.slot_tuple_hash.lookup ?_)
  show wpAny _ _ (if (some (Value.builtin "tuple.__hash__") == some Value.none) = true then _ else _) Q E s
  rw [if_neg (by rw [beq_builtin_none]; exact Bool.false_ne_true)]
  refine wpAny_bind (wpAny_specialOf hT F.slot_tuple_hash.lookup ?_)
  show wpAny _ _ (callSpecialIfBoundUnlessNone? (.ref a) "__hash__" _ >>= _) Q E s
  refine wpAny_bind (wpAny_callSpecialIfBoundUnlessNone?_slot hT F.slot_tuple_hash (wpAny_call_entry F.slot_tuple_hash hT F.entry_tuple_hash ?_ (F.args_tuple_hash_1 _)))
  show wpAny _ _ (Builtin.Tuple.tupleItemsOf (.ref a) >>= _) _ _ s
  refine wpAny_bind (wpAny_tupleItemsOf ho hd ?_)
  refine wpAny_bind ?_
  rw [← Array.forIn_toList]
  refine wpAny_forIn_list _
    (fun rest (b : Array Int) s' => ∃ done left, ks = done ++ left ∧ Paired (itmIs P w s.heap) left rest ∧ b.toList = done.map (itmH P w) ∧ s' = { s with toks := s.toks + (nkD done - 1) })
    _ ?_ ?_ _ _ ⟨[], ks, rfl, hi, rfl, rfl⟩
  · rintro x rest b s' ⟨done, left, rfl, hl, hb, rfl⟩
    cases hl with
    | @cons k _ ks' _ h1 hl' =>
      have e : s.toks + (nkD done - 1) + itmD k = s.toks + (nkD (done ++ [k]) - 1) := by
        rw [nkD_snoc]
        have : 1 ≤ nkD done := by
          cases done with
          | nil => exact Nat.le_refl _
          | cons i r => show 1 ≤ itmD i + nkD r; cases i <;> (dsimp only [itmD]; omega)
        omega
      refine wpAny_bind (itm_hash (k := k) (by show A.units + 1 + 1 < cLine; omega) h1 ?_)
      first
        | exact wpAny_pure ⟨done ++ [k], ks', by simp, hl', by simp [hb], by rw [← e]⟩
        | exact wpAny_bind (wpAny_pure (wpAny_pure ⟨done ++ [k], ks', by simp, hl', by simp [hb], by rw [← e]⟩))
  · rintro b s' ⟨done, left, rfl, hl, hb, rfl⟩
    cases hl
    rw [List.append_nil] at h
    show wpAny _ _ (retInt (Builtin.Tuple.tupleHashOf b.toList)) _ _ _
    rw [hb]
    refine wpAny_ret_mkInt ?_
    have e : s.toks + (nkD done - 1) + 1 = s.toks + nkD done := by
      have : 1 ≤ nkD done := by
        cases done with
        | nil => exact Nat.le_refl _
        | cons i r => show 1 ≤ itmD i + nkD r; cases i <;> (dsimp only [itmD]; omega)
      omega
    show wpAny _ _ (if (decide (-(2 : Int) ^ 63 ≤ Builtin.Tuple.tupleHashOf (done.map (itmH P w))) && decide (Builtin.Tuple.tupleHashOf (done.map (itmH P w)) < 2 ^ 63)) = true then _ else _) Q E _
    unfold nkH reduceHash at h
    by_cases hr : (decide (-(2 : Int) ^ 63 ≤ Builtin.Tuple.tupleHashOf (done.map (itmH P w))) && decide (Builtin.Tuple.tupleHashOf (done.map (itmH P w)) < 2 ^ 63)) = true
    · rw [if_pos hr]
      rw [if_pos hr] at h
      exact wpAny_pure (by rw [← e] at h; exact h)
    · rw [if_neg hr]
      rw [if_neg hr] at h
      exact wpAny_bind (wpAny_rule (wpAny_pure (by rw [← e] at h; exact h)))
theorem nk_eq_tree {x y : List Itm} {a b : Addr} {Pf : Fin → Shared → Prop} (hu : A.units + 1 < cLine) (hx : IsN P w s.heap x a) (hy : IsN P w s.heap y b) (h : Pf (.done (.ret (.bool (decide (x = y))))) s) :
    wpAny (model P w) A (Builtin.«tuple.__eq__» ⟨[.ref a, .ref b], []⟩) Pf E s := by
  have hTb := hy.typeIs
  obtain ⟨oa, xs, na, hoa, _, hda, hia⟩ := hx
  obtain ⟨ob, ys, nb, hob, _, hdb, hib⟩ := hy
  show wpAny _ _ (isInstance (.ref b) (.type "tuple") >>= _) _ _ s
  refine wpAny_bind (wpAny_isInstance hTb isSubtype_tuple_tuple ?_)
  simp only [Bool.not_true, Bool.false_eq_true, if_false]
  refine wpAny_bind (wpAny_tupleItemsOf hoa hda ?_)
  refine wpAny_bind (wpAny_tupleItemsOf hob hdb ?_)
  refine wpAny_bind ?_
  refine wpAny_forIn_list _
    (fun rest r s' => r.1 = none ∧ s' = s ∧ ∃ x' y' xs' ys', rest = List.zip xs' ys' ∧ Paired (itmIs P w s.heap) x' xs' ∧ Paired (itmIs P w s.heap) y' ys' ∧ decide (x' = y') = decide (x = y) ∧ (xs'.length == ys'.length) = (xs.size == ys.size))
    _ ?_ ?_ _ _ ⟨rfl, rfl, x, y, xs.toList, ys.toList, rfl, hia, hib, rfl, by simp⟩
  · rintro ⟨u, v⟩ rest r s' ⟨hr, rfl, x', y', xs', ys', hz, hx', hy', hdec, hlen⟩
    cases hx' with
    | nil => simp at hz
    | @cons k1 u' x'' xs'' h1 hx'' =>
      cases hy' with
      | nil => simp at hz
      | @cons k2 v' y'' ys'' h2 hy'' =>
        simp only [List.zip_cons_cons, List.cons.injEq, Prod.mk.injEq] at hz
        obtain ⟨⟨rfl, rfl⟩, rfl⟩ := hz
        refine wpAny_bind (itm_eq (x := k1) (y := k2) hu h1 h2 ?_)
        by_cases hk : k1 = k2
        · subst hk
          rw [decide_eq_true rfl]
          simp only [Bool.not_true, Bool.false_eq_true, if_false]
          refine wpAny_pure ⟨rfl, rfl, x'', y'', xs'', ys'', rfl, hx'', hy'', ?_, by simpa using hlen⟩
          rw [← hdec]
          by_cases hxy : x'' = y''
          · simp [hxy]
          · simp [hxy]
        · rw [decide_eq_false hk]
          simp only [Bool.not_false, if_true]
          have hf : decide (x = y) = false := by rw [← hdec]; simp [hk]
          rw [hf] at h
          exact wpAny_bind (wpAny_pure (wpAny_pure (wpAny_pure h)))
  · rintro ⟨r1, r2⟩ s' ⟨hr, rfl, x', y', xs', ys', hz, hx', hy', hdec, hlen⟩
    simp only at hr
    subst hr
    refine wpAny_pure ?_
    have hfin : (xs.size == ys.size) = decide (x = y) := by
      rw [← hdec, ← hlen]
      cases hx' with
      | nil =>
        cases hy' with
        | nil => simp
        | cons _ _ => simp
      | cons _ _ =>
        cases hy' with
        | nil => simp
        | cons _ _ => simp at hz
    show Pf (.done (.ret (.bool (xs.size == ys.size)))) s'
    rw [hfin]; exact h
theorem nk_eq {x y : List Itm} {a b : Addr} {Q : Bool → Shared → Prop} (hu : A.units + 8 < cLine) (hx : IsN P w s.heap x a) (hy : IsN P w s.heap y b) (h : Q (decide (x = y)) s) :
    wpAny (model P w) A (eqBool (.ref a) (.ref b)) Q E s := by
  unfold eqBool
  try with_reducible refine wpAny_holding ?_
  show wpAny _ _ (if (Value.ref a == Value.ref b) = true then _ else _) Q E s
  by_cases hab : (Value.ref a == Value.ref b) = true
  · rw [if_pos hab]
    have e : a = b := by have := eq_of_beq hab; injection this
    subst e
    obtain rfl := hx.inj hy
    exact wpAny_bind (wpAny_rule (wpAny_pure (by simpa using h)))
  · rw [if_neg hab]
    exact wpAny_bind (wpAny_richCompare_same_room (op := .Eq) hx.typeIs hy.typeIs F.slot_tuple_eq
      (wpAny_call_entry F.slot_tuple_eq hx.typeIs F.entry_tuple_eq (nk_eq_tree (by show A.units + 1 + 1 < cLine; omega) hx hy ⟨_, rfl, (fun e => nomatch e), wpAny_truthy_bool h⟩) (F.args_tuple_eq_2 _ _)) (by omega))
end
def nkKind (P : Program) (w : World) : HeapKind P w (List Itm) where
  is := IsN P w
  hash := nkH P w
  draws := nkD
  room := fun A => A.units + 8 < cLine
  inj := fun hx hy => hx.inj hy
  keeps := fun x ho hd hs => x.keeps ho hd hs
  pyHash := fun hu hk h => nk_hash hu hk h
  eqBool := fun hu hx hy h => nk_eq hu hx hy h
  quiet := fun hk h => nk_quiet hk h
end NK

set_option Elab.async false
set_option linter.all false
set_option maxRecDepth 100000
set_option maxHeartbeats 4000000
namespace NK
open PySem PySem.Spec PyProof.Rows L2

abbrev KVs := List (List Itm × Addr × V)
def RelT : KVs → List (List Itm × Addr × Value) → Prop := Paired fun p q => p.1 = q.1 ∧ p.2.1 = q.2.1 ∧ RelV p.2.2 q.2.2
/-- a dict with such keys, by its one object -/
def ndP (P : Program) (w : World) (a : Addr) (kvs : KVs) (h : Heap) : Prop :=
  kvs.length ≤ sizeLine ∧ (a == sysModules) = false ∧ ∃ xs, RelT kvs xs ∧ ∃ o es ep, h.get? a = some o ∧ o.ExactDict ∧ o.data = .dict es ep ∧ es.toList = xs.map (entryOfKey (nkKind P w)) ∧ (xs.map (·.1)).Nodup
def ND (P : Program) (w : World) (a : Addr) (kvs : KVs) : HO := .ext (ndP P w a kvs)
def ItmAt (H : Hp) : Itm → V → Prop
  | .inl k, v => v = kV k
  | .inr ks, v => ∃ b, v = .ref b ∧ H b = some (.tup (ks.map kV))
/-- the tuple at b is the key k -/
def KeyAt (H : Hp) (k : List Itm) (b : Addr) : Prop := ∃ vs, H b = some (.tup vs) ∧ Paired (ItmAt H) k vs
def Keyed (H : Hp) (kvs : KVs) : Prop := ∀ p ∈ kvs, KeyAt H p.1 p.2.1
def valN (kvs : KVs) (k : List Itm) : Option V := (kvs.find? fun p => decide (p.1 = k)).map (·.2.2)
def putN (kvs : KVs) (k : List Itm) (b : Addr) (v : V) : KVs := if (valN kvs k).isSome then kvs.map (fun p => if p.1 = k then (p.1, p.2.1, v) else p) else kvs ++ [(k, b, v)]

theorem ItmAt.mono {H H' : Hp} (s : Same H H') {i : Itm} {v : V} (h : ItmAt H i v) : ItmAt H' i v := by
  cases i with
  | inl k => exact h
  | inr ks => obtain ⟨b, e, hb⟩ := h; exact ⟨b, e, s _ _ hb⟩
theorem KeyAt.mono {H H' : Hp} (s : Same H H') {k : List Itm} {b : Addr} (h : KeyAt H k b) : KeyAt H' k b := by
  obtain ⟨vs, h1, h2⟩ := h
  exact ⟨vs, s _ _ h1, Paired.mapP h2 fun _ _ z => ItmAt.mono s z⟩
/-- but for one object that is no tuple -/
theorem ItmAt.but {H H' : Hp} {a : Addr} (ha : ∀ vs, H a ≠ some (.tup vs)) (s : ∀ b o, b ≠ a → H b = some o → H' b = some o) {i : Itm} {v : V} (h : ItmAt H i v) : ItmAt H' i v := by
  cases i with
  | inl k => exact h
  | inr ks => obtain ⟨b, e, hb⟩ := h; exact ⟨b, e, s _ _ (fun z => ha _ (z ▸ hb)) hb⟩
theorem KeyAt.but {H H' : Hp} {a : Addr} (ha : ∀ vs, H a ≠ some (.tup vs)) (s : ∀ b o, b ≠ a → H b = some o → H' b = some o) {k : List Itm} {b : Addr} (h : KeyAt H k b) : KeyAt H' k b := by
  obtain ⟨vs, h1, h2⟩ := h
  exact ⟨vs, s _ _ (fun z => ha _ (z ▸ h1)) h1, Paired.mapP h2 fun _ _ z => ItmAt.but ha s z⟩
theorem Keyed.but {H H' : Hp} {a : Addr} (ha : ∀ vs, H a ≠ some (.tup vs)) (s : ∀ b o, b ≠ a → H b = some o → H' b = some o) {kvs : KVs} (h : Keyed H kvs) : Keyed H' kvs := fun p hp => (h p hp).but ha s
theorem Keyed.mono {H H' : Hp} (s : Same H H') {kvs : KVs} (h : Keyed H kvs) : Keyed H' kvs := fun p hp => (h p hp).mono s

section
variable {P : Program} {w : World} {H : Hp} {h : Heap} {a b : Addr} {kvs : KVs} {k : List Itm}
theorem itm_of (ok : HOk P w H h) {i : Itm} {v : V} {u : Value} (hi : ItmAt H i v) (r : RelV v u) : itmIs P w h i u := by
  cases i with
  | inl k => cases hi; exact kV_is (P := P) (w := w) r
  | inr ks =>
    obtain ⟨b, rfl, hb⟩ := hi
    cases r
    exact ⟨b, rfl, key_of ok hb⟩
theorem itms_of (ok : HOk P w H h) {is : List Itm} {vs : List V} (hi : Paired (ItmAt H) is vs) : ∀ {us : List Value}, Vals vs us → Paired (itmIs P w h) is us := by
  induction hi with
  | nil => intro us r; cases r; exact .nil
  | cons h1 _ ih => intro us r; cases r with | cons r1 r2 => exact .cons (itm_of ok h1 r1) (ih r2)
theorem isN_of (ok : HOk P w H h) (hk : KeyAt H k b) : IsN P w h k b := by
  obtain ⟨vs, hb, hi⟩ := hk
  obtain ⟨_, its, r, o, h1, h2, n, h3⟩ := (show ObjOk P w H h b (.tup vs) from ok b _ hb)
  exact ⟨o, its.toArray, n, h1, h2, h3, by simpa using itms_of ok hi r⟩
theorem nd_of (ok : HOk P w H h) (e : H a = some (ND P w a kvs)) (kd : Keyed H kvs) : kvs.length ≤ sizeLine ∧ (a == sysModules) = false ∧ ∃ xs, RelT kvs xs ∧ h.DictOfH (nkKind P w) a xs := by
  obtain ⟨z, y, xs, r, o, es, ep, h1, h2, h3, h4, h5⟩ := (show ObjOk P w H h a (ND P w a kvs) from ok a _ e).1
  refine ⟨z, y, xs, r, o, es, ep, h1, h2, h3, h4, fun x hx => ?_, h5⟩
  have all : ∀ {l : KVs} {m : List (List Itm × Addr × Value)}, RelT l m → (∀ p ∈ l, KeyAt H p.1 p.2.1) → ∀ x ∈ m, (nkKind P w).is h x.1 x.2.1 := by
    intro l m q
    unfold RelT at q
    induction q with
    | nil => intro _ x hx; exact nomatch hx
    | @cons p q ps qs hq t ih =>
      intro kd x hx
      rcases List.mem_cons.mp hx with e | hx
      · subst e
        rw [← hq.1, ← hq.2.1]
        exact isN_of ok (kd p List.mem_cons_self)
      · exact ih (fun p hp => kd p (List.mem_cons_of_mem _ hp)) x hx
  exact all r kd x hx
theorem nd_new {H' : Hp} {h' : Heap} {xs : List (List Itm × Addr × Value)} (z : kvs.length ≤ sizeLine) (y : (a == sysModules) = false) (r : RelT kvs xs) (dd : h'.DictOfH (nkKind P w) a xs) : ObjOk P w H' h' a (ND P w a kvs) := by
  obtain ⟨o, es, ep, h1, h2, h3, h4, _, h5⟩ := dd
  refine ⟨⟨z, y, xs, r, o, es, ep, h1, h2, h3, h4, h5⟩, ⟨o, h1⟩, ?_⟩
  rintro g1 g2 ⟨z, y, xs, r, o, es, ep, h1, h2⟩ k
  exact ⟨z, y, xs, r, o, es, ep, k o h1, h2⟩
theorem rel_val {xs : List (List Itm × Addr × Value)} (r : RelT kvs xs) (k : List Itm) : RelO (valN kvs k) ((atKey xs k).map (·.2)) := by
  unfold RelT at r
  induction r with
  | nil => exact True.intro
  | @cons p q ps qs h t ih =>
    obtain ⟨h1, _, h2⟩ := h
    unfold valN atKey at *
    by_cases e : p.1 = k
    · have e' : q.1 = k := h1.symm.trans e
      simp only [List.find?_cons, decide_eq_true e, decide_eq_true e', Option.map_some]
      exact h2
    · have e' : ¬ q.1 = k := fun z => e (h1.trans z)
      simp only [List.find?_cons, decide_eq_false e, decide_eq_false e']
      exact ih
theorem rel_put {xs : List (List Itm × Addr × Value)} (r : RelT kvs xs) (k : List Itm) {b : Addr} {v : V} {u : Value} (rv : RelV v u) : RelT (putN kvs k b v) (storedH xs k b u) := by
  have e : (valN kvs k).isSome = (atKey xs k).isSome := by rw [(rel_val r k).isSome_eq, Option.isSome_map]
  unfold putN storedH
  rw [e]
  by_cases q : (atKey xs k).isSome = true
  · rw [if_pos q, if_pos q]
    unfold RelT at r ⊢
    clear e q
    induction r with
    | nil => exact .nil
    | @cons p q ps qs h t ih =>
      rw [List.map_cons, List.map_cons]
      refine .cons ?_ ih
      obtain ⟨h1, h2, h3⟩ := h
      unfold putAt
      by_cases e : p.1 = k
      · rw [if_pos e, if_pos (h1.symm.trans e)]; exact ⟨h1, h2, rv⟩
      · rw [if_neg e, if_neg (fun z => e (h1.trans z))]; exact ⟨h1, h2, h3⟩
  · rw [if_neg q, if_neg q]
    unfold RelT at r ⊢
    exact Paired.snoc r ⟨rfl, rfl, rv⟩
theorem putN_length (kvs : KVs) (k : List Itm) (b : Addr) (v : V) : (putN kvs k b v).length ≤ kvs.length + 1 := by
  unfold putN
  split
  · rw [List.length_map]; omega
  · rw [List.length_append, List.length_singleton]
    exact Nat.le_refl _
end

/-! ### rules -/
section
variable {X : Cx}
/-- {} -/
def tNNew (P : Program) (w : World) : TE := fun _ H Q => ∀ p, H p = none → Q (.ref p) (upd H p (ND P w p []))
theorem pe_nnew {pos : Pos} : PE X (.Dict [] [] pos) (tNNew X.prog X.w) := ⟨fun pins s σ H Q I h => by
  have dd := Heap.DictOfH.new (knd := nkKind X.prog X.w) s.heap
  refine wpAny_Dict_empty ⟨.ref s.heap.objs.size, _, I.laid (a := s.heap.objs.size) (o := ND X.prog X.w s.heap.objs.size []) (t' := s.toks) (fun _ _ q => Heap.get?_push_of_some _ q) (Nat.le_refl _)
    (nd_new (Nat.zero_le _) (beq_eq_false_iff_ne.mpr (Ne.symm (Nat.ne_of_lt I.big))) .nil dd), rfl, h _ (I.hok.fresh (Nat.le_refl _))⟩⟩
/-- k not in d -/
def tNNotIn (P : Program) (w : World) (ty td : TE) : TE := fun σ H Q => ty σ H fun y H1 => td σ H1 fun x H2 => ∃ a kvs k b, x = .ref a ∧ y = .ref b ∧ H2 a = some (ND P w a kvs) ∧ Keyed H2 kvs ∧ KeyAt H2 k b ∧ Q (.bl (!(valN kvs k).isSome)) H2
variable {o i value : Expr} {td ty tv : TE} {pos pos' : Pos}
theorem pc_nnotin (hu : X.A.units + 16 < cLine) (hi : PE X i ty) (ho : PE X o td) : PC X .NotIn i o (tNNotIn X.prog X.w ty td) := by
  refine ⟨fun pins s σ H Q I h => ?_⟩
  refine thn (hi.run pins s σ H _ I h) fun iv s1 ⟨y, H1, I1, ry, q1⟩ => thn (ho.run pins s1 σ H1 _ I1 q1) fun u s2 ⟨x, H2, I2, rx, a, kvs, k, b, ex, ey, e, kd, hk, q2⟩ => ?_
  subst ex ey
  obtain rfl : u = Value.ref a := rx
  obtain rfl : iv = Value.ref b := ry
  obtain ⟨z, hd, xs, rel, dd⟩ := nd_of I2.hok e kd
  refine wpAny_notIn_heap (knd := nkKind X.prog X.w) (by show X.A.units + 1 + 8 < cLine; omega) (isN_of I2.hok hk) hd dd ?_
  have q := (rel_val rel k).isSome_eq
  rw [Option.isSome_map] at q
  rw [← q]
  exact ⟨.bl (!(valN kvs k).isSome), H2, I2.tok _, rfl, q2⟩
/-- d[k] -/
def tNGet (P : Program) (w : World) (td ty : TE) : TE := fun σ H Q => td σ H fun x H1 => ty σ H1 fun y H2 => ∃ a kvs k b v, x = .ref a ∧ y = .ref b ∧ H2 a = some (ND P w a kvs) ∧ Keyed H2 kvs ∧ KeyAt H2 k b ∧ valN kvs k = some v ∧ Q v H2
theorem pe_nget (hu : X.A.units + 16 < cLine) (ho : PE X o td) (hi : PE X i ty) (hs : NoSl i) : PE X (.Subscript o i pos) (tNGet X.prog X.w td ty) := by
  refine ⟨fun pins s σ H Q I h => ?_⟩
  refine subD_of PySem.F.slot_dict_getitem.lookup hs (thn (ho.run pins s σ H _ I h) fun u s1 ⟨x, H1, I1, rx, q1⟩ => thn (hi.run pins s1 σ H1 _ I1 q1) fun iv s2 ⟨y, H2, I2, ry, a, kvs, k, b, v, ex, ey, e, kd, hk, hv, q2⟩ => ?_)
  subst ex ey
  obtain rfl : u = Value.ref a := rx
  obtain rfl : iv = Value.ref b := ry
  obtain ⟨z, hd, xs, rel, dd⟩ := nd_of I2.hok e kd
  obtain ⟨w', hw, rw'⟩ := RelO.some_of (v := v) (o := (atKey xs k).map (·.2)) (by rw [← hv]; exact rel_val rel k)
  obtain ⟨p, hp, hp2⟩ := Option.map_eq_some_iff.mp hw
  refine ⟨dd.typeIs, wpAny_getItem_heap (knd := nkKind X.prog X.w) (by show X.A.units + 1 + 8 < cLine; omega) (isN_of I2.hok hk) dd hp ?_⟩
  rw [hp2]
  exact ⟨v, H2, I2.tok _, rw', q2⟩
/-- d[k] = v -/
def sNPut (P : Program) (w : World) (td ty tv : TE) : TS := fun D σ H => tv σ H fun v H1 => td σ H1 fun x H2 => ty σ H2 fun y H3 => ∃ a kvs k b, x = .ref a ∧ y = .ref b ∧ H3 a = some (ND P w a kvs) ∧ Keyed H3 kvs ∧ KeyAt H3 k b ∧
  kvs.length < sizeLine ∧ D.nx σ (upd H3 a (ND P w a (putN kvs k b v)))
theorem ps_nput (hu : X.A.units + 16 < cLine) (ho : PE X o td) (hi : PE X i ty) (hv : PE X value tv) (hs : swapsWith value (some (.Subscript o i pos')) pos.line X.env = pure false) :
    PS X (.Assign [.Subscript o i pos'] value pos) (sNPut X.prog X.w td ty tv) := by
  refine ⟨fun pins s σ H D I h => ?_⟩
  refine wpAny_Assign_Subscript (thn (hv.run pins s σ H _ I h) fun r s1 ⟨v, H1, I1, rv, q1⟩ => thn (ho.run pins s1 σ H1 _ I1 q1) fun u s2 ⟨x, H2, I2, rx, q2⟩ => thn (hi.run pins s2 σ H2 _ I2 q2) fun iv s3 ⟨y, H3, I3, ry, a, kvs, k, b, ex, ey, e, kd, hk, l, q3⟩ => ?_) hs
  subst ex ey
  obtain rfl : u = Value.ref a := rx
  obtain rfl : iv = Value.ref b := ry
  obtain ⟨z, hd, xs, rel, dd⟩ := nd_of I3.hok e kd
  have hz : xs.length ≤ sizeLine := by
    have := Paired.length (show Paired _ kvs xs from rel)
    omega
  have hl : (putN kvs k b v).length ≤ sizeLine := by
    have := putN_length kvs k b v
    omega
  refine wpAny_setItem_heap (knd := nkKind X.prog X.w) (hsz := hz) (by show X.A.units + 1 + 8 < cLine; omega) (isN_of I3.hok hk) dd fun h' dd' hs => ?_
  have he : ∃ q, h'.get? a = some q := by
    obtain ⟨q, es, ep, hq, _⟩ := dd'
    exact ⟨q, hq⟩
  exact ⟨σ, _, d_write I3 (by rw [e]; exact True.intro) hs he (nd_new hl hd (rel_put rel k rv) dd'), q3⟩
/-- len(d) -/
theorem call_lenN : CallR X (.builtin "len") (fun xs H Q => ∃ a kvs, xs = [V.ref a] ∧ H a = some (ND X.prog X.w a kvs) ∧ Keyed H kvs ∧ Q (.int kvs.length) H) := by
  intro pins s σ H xs us Q I r h
  obtain ⟨a, kvs, rfl, ha, kd, q⟩ := h
  obtain ⟨u, rfl, ru⟩ := vals1 r
  obtain rfl : u = Value.ref a := ru
  obtain ⟨z, hd, ys, rel, dd⟩ := nd_of I.hok ha kd
  have hl : kvs.length = ys.length := Paired.length (show Paired _ kvs ys from rel)
  refine call_len_dictH hd dd (by rw [← hl]; rw [sizeLine_eq] at z; omega) ?_
  rw [← hl]
  exact ⟨.int ((kvs.length : Nat) : Int), H, I.tok _, ⟨_, rfl⟩, q⟩
end
end NK

set_option Elab.async false
set_option linter.all false
set_option maxRecDepth 100000
set_option maxHeartbeats 4000000
/-! Further rules: set(list of ints), a text again and again, enumerate(text), products of great ints. -/
namespace L2
open PySem PySem.Spec PyProof.Rows
abbrev so (w : World) : Obj := { cls := .type "set", dict := none, data := .set #[] 0 (.fresh 0 0 (!w.params.followText "set-order")) }
section
variable {P : Program} {w : World} {A : Around} {E : Value → Shared → Prop} {s : Shared}
set_option maxHeartbeats 8000000 in
theorem call_set_lstI {l : Addr} {items : Array Value} (ns : List Int) {Q : Value → Shared → Prop} (hh : A.handled = none) (hl : s.heap.IsList l items) (hit : IntsAre items.toList ns) (hb : ns.length + 1 < scanBound)
    (h : ∀ (h' : Heap) (tk c : Nat), SetR w h' s.heap.objs.size (fun j => decide (j ∈ ns)) c → c ≤ ns.length → (∀ b o, s.heap.get? b = some o → h'.get? b = some o) → Q (.ref s.heap.objs.size) { s with heap := h', toks := tk }) :
    wpAny (model P w) A (call (.type "set") [.ref l]) Q E s := by
  have hisz : items.size = ns.length := by
    have q := IntsAre.length hit
    rw [Array.length_toList] at q
    exact q
  obtain ⟨c, tl, hmro⟩ := F.called_set.mro
  have hmade := F.called_set.made
  have hsub := F.called_set.sub
  refine wpAny_call (codeAny_of_tree ?_)
  show wpAny _ _ (callAny (.type "set") _) _ _ _
  refine wpAny_pure ⟨Code.quiet_builtin _ (by decide +kernel), codeAny_builtin F.entry_type_call ?_⟩
  rw [Around.under_plain (weight_type_call_type "set" [.ref l] []) rfl]
  have h1 := F.called_set.notType
  have h2 := F.called_set.canCreate
  have hct := F.typeCall_set_1 (.ref l)
  repeat (any_goals (first | assumption | wp_step))

  refine codeAny_mono (code_set_led1 (.ref l) (E := E) (Q₁ := fun obj s₁ => obj = .ref s.heap.objs.size ∧ s₁ = { s with heap := s.heap.push (so w) }) ⟨rfl, rfl⟩) fun r s₁ hr => ?_
  cases r with
  | error e => exact hr
  | ok fl =>
    cases fl with
    | ret obj =>
      obtain ⟨rfl, rfl⟩ := hr
      have hS : (s.heap.push (so w)).get? s.heap.objs.size = some (so w) := Heap.get?_push_size _ rfl
      have hT : Shared.TypeIs { s with heap := s.heap.push (so w) } (.ref s.heap.objs.size) "set" := ⟨_, hS, rfl⟩
      have hli := F.called_set.init.lookup
      have hbi := F.called_set.init.bind (.ref s.heap.objs.size)
      repeat (any_goals (first | assumption | wp_step))

      refine codeAny_mono (codeAny_call_builtin (R := wants (fun r s₂ => r = .none ∧ ∃ h' tk c, s₂ = { s with heap := h', toks := tk } ∧ SetR w h' s.heap.objs.size (fun j => decide (j ∈ ns)) c ∧ c ≤ ns.length ∧
          (∀ b o, s.heap.get? b = some o → h'.get? b = some o)) E) F.called_set.init.plain F.entry_set_init (check_set_init_1 hT ?_)) fun r₂ s₂ hr₂ => ?_
      · obtain ⟨ol, hol, hcl, nl, hdl⟩ := hl
        obtain ⟨ocls, odict, odata, oslots⟩ := ol
        simp only at hcl hdl
        subst hcl; subst hdl
        have hol' : (s.heap.push (so w)).get? l = some { cls := .type "list", dict := odict, data := .seq items nl, slots := oslots } := Heap.get?_push_of_some _ hol
        have hsls := F.sub_list_set
        have hslf := F.sub_list_frozenset
        have hne : (Value.type "list" == Value.type "dict") = false := by decide
        have hl1 : (s.heap.push (so w)).IsList l items := ⟨_, hol', rfl, nl, rfl⟩
        unfold Builtin.«set.__init__» noKeywords Builtin.Frozenset.updateFrom
        generalize hPI : pyIter = PI
        wp_walk
        subst hPI

        refine wpAny_pyIter_list hl1 ?_
        refine wpAny_bind (wpAny_runValue ?_)
        have hlS : l < s.heap.objs.size := Heap.lt_size hol
        have hh3 : A.in1.in1.in1.handled = none := by simp [hh]
        have hz1 : (s.heap.push (so w)).objs.size = s.heap.objs.size + 1 := Heap.size_push ..
        have hneI : l ≠ (s.heap.push (so w)).objs.size := by
          rw [Heap.size_push]; exact Nat.ne_of_lt (Nat.lt_succ_of_lt hlS)
        have hSf : s.heap.objs.size ∉ [(s.heap.push (so w)).objs.size, l] := by
          rw [Heap.size_push]; simp only [List.mem_cons, List.mem_singleton, List.not_mem_nil, or_false, not_or]
          exact ⟨Nat.ne_of_lt (Nat.lt_succ_self _), Nat.ne_of_gt hlS⟩
        have hval : ∀ (i : Nat) (v : Value), items[i]? = some v → ∃ k t, ns[i]? = some k ∧ v = .int k t := fun i v hv => by
          have hi : i < ns.length := by rw [← hisz]; exact (Array.getElem?_eq_some_iff.mp hv).1
          obtain ⟨t, e⟩ := PyProof.Rows.IntsAre.int_at hit i v (by rw [Array.getElem?_toList]; exact hv)
          refine ⟨ns[i], t, List.getElem?_eq_getElem hi, ?_⟩
          rw [e, List.getD_eq_getElem?_getD, List.getElem?_eq_getElem hi] <;> rfl
        refine set_update_ints ((Walks.list hh3 _ l hneI items).toS) s.heap.objs.size
          hSf ns hisz hb hval (items.size - 0) 0 _ (by omega) (Nat.zero_le _)
          ⟨⟨_, Heap.get?_push_size _ rfl, rfl, rfl⟩, (hl1.push _)⟩ ?hS0 ?hR
        case hS0 =>
          have hget : ((s.heap.push (so w)).push { cls := .type "list_iterator", data := .fields #[.ref l, .int 0 0] }).get? s.heap.objs.size
              = some (so w) := Heap.get?_push_of_some _ hS
          exact ⟨0, Nat.le_refl 0, setR_new_at hget⟩
        case hR =>
          intro s' c' hm hc' hS'
          obtain ⟨h', g2, d', tk', os'⟩ := s'
          have eg : g2 = s.gens := hm.gens
          have ed : d' = s.drawn := hm.drawn
          have eo : os' = s.os := hm.os
          subst eg; subst ed; subst eo
          show wpAny _ _ _ _ _ _
          refine wpAny_pure ?_
          show wpAny _ _ (ret Value.none) _ _ _
          rw [hisz] at hc'
          refine wpAny_pure ⟨rfl, h', tk', c', rfl, hS', hc', fun b o e => ?_⟩
          have hb0 : b < s.heap.objs.size := Heap.lt_size e
          have hb1 : b ≠ s.heap.objs.size := Nat.ne_of_lt hb0
          have hb2 : b ≠ (s.heap.push (so w)).objs.size := by
            rw [Heap.size_push]; exact Nat.ne_of_lt (Nat.lt_succ_of_lt hb0)
          exact hm.heap b o (by simp only [List.mem_cons, List.mem_singleton, List.not_mem_nil, or_false, not_or]; exact ⟨hb1, hb2⟩) (Heap.get?_push_of_some _ (Heap.get?_push_of_some _ e))

      · cases r₂ with
        | error e => exact hr₂
        | ok fl₂ =>
          cases fl₂ with
          | ret r =>
            obtain ⟨rfl, h', tk, c', rfl, hS', hc', hk'⟩ := hr₂
            repeat (any_goals (first | assumption | wp_step))
            exact h _ _ _ hS' hc' hk'
          | _ => exact hr₂.elim
    | _ => exact hr.elim

end
section
variable {X : Cx}
/-- set(xs) of a list of ints -/
def rSetLI (K : PySem.W.Frag) (w : World) : List V → Hp → VK → Prop := fun xs H Q => ∃ (l : Addr) (ns : List Int), xs = [V.ref l] ∧ SqL K H l (ns.map V.int) ∧ ns.length ≤ 1000 ∧
  ∀ (a : Addr) (c : Nat), H a = none → c ≤ ns.length → Q (.ref a) (upd H a (SetO w a (fun j => decide (j ∈ ns)) c))
theorem cr_setL (hc : X.calm = true) : CallR X (.type "set") (rSetLI X.K X.w) := by
  intro pins s σ H xs us Q I r h
  obtain ⟨l, ns, rfl, hl, h1, q⟩ := h
  rw [Vals.ref1 r]
  obtain ⟨its, rv, p, hz⟩ := I.list hl
  refine call_set_lstI ns (I.ok.hd hc) (show s.heap.IsList l its.toArray from p.isList) (intsAre_of rv) (by unfold scanBound; omega) fun h' tk c R hcn k => ?_
  exact ⟨.ref _, upd H s.heap.objs.size (SetO X.w s.heap.objs.size (fun j => decide (j ∈ ns)) c), I.laid (t' := tk) k (Nat.le_refl _) (setO_new R), rfl, q _ c (I.hok.fresh (Nat.le_refl _)) hcn⟩
/-- a text so many times -/
def rMulS : R2 := fun x y H Q => ∃ (z : Str) (k : Int), x = .str z ∧ y = .int k ∧ z.length ≤ 1000 ∧ 0 ≤ k ∧ k ≤ 1000 ∧ Q (.str (Txt.mul z k)) H
theorem op_mulS : OpR X (binaryOp .Mult) rMulS := by
  intro pins s σ H x y v u Q I rx ry h
  obtain ⟨z, k, rfl, rfl, h1, h2, h3, q⟩ := h
  obtain ⟨t, rfl⟩ := rx
  obtain ⟨t2, rfl⟩ := ry
  exact SB.mul (mulOk_of 1000 1000 h1 (by omega) (by omega) (by decide) (by decide)) fun t' n => ⟨.str (Txt.mul z k), H, I.tok _, ⟨t', rfl⟩, q⟩
/-- a product whose factors are told by their bits -/
def CMulB (i j : Int) : Prop := Builtin.Int.intBits i ≤ 2097152 ∧ Builtin.Int.intBits j ≤ 64
theorem op_mulB : OpR X (binaryOp .Mult) (rI CMulB fun i j => .int (i * j)) := opI fun i j _ _ _ _ _ hc q => mul_int q (by
  obtain ⟨h1, h2⟩ := (show CMulB i j from hc)
  have e : bitsLine = 134217728 := by decide
  unfold IntMulOk
  intro z
  rw [Bool.and_eq_true] at z
  have z2 := z.2
  unfold Builtin.Int.intTooBig at z2
  have z3 := of_decide_eq_true z2
  rw [e] at z3
  omega)
end
/-! ### enumerate(text) -/
def Ites (x : Str) : It :=
  ⟨fun i _ => i < x.cps.size, fun i H v H' => ∃ T c, v = .ref T ∧ H T = none ∧ H' = upd H T (.tup [.int (i : Nat), .str ⟨#[c]⟩]) ∧ x.cps[i]? = some c, fun i _ => x.cps.size ≤ i⟩
theorem turn_enumS {P : Program} {w : World} {K : PySem.W.Frag} {elts : List Expr} {kk : Nat} {tpos : Pos} (x : Str) (t : Tok) (e it : Addr) (hne : e ≠ it) :
    Turn P w K (.Tuple elts kk tpos) (Ites x) [e, it] e (fun i h => (∃ old, IsEnum h e it ((i : Nat) : Int) old) ∧ i ≤ x.cps.size ∧ h.IsStrIter it (strIterType x) x t i) where
  mem := by simp
  obj := fun i h st b hb => by
    obtain ⟨⟨old, he⟩, _, ⟨o, ho, hc, hd⟩⟩ := st
    have e' : b = e ∨ b = it := by simpa using hb
    rcases e' with z | z
    · rw [z]; exact ⟨_, he, fun v q => nomatch q⟩
    · rw [z]; exact ⟨o, ho, fun v q => by rw [hd] at q; cases q⟩
  keep := fun i h h' st k => let ⟨⟨old, he⟩, hi, ⟨o, ho, r⟩⟩ := st; ⟨⟨old, k e (by simp) _ he⟩, hi, ⟨o, k it (by simp) _ ho, r⟩⟩
  item := by
    intro X hP hw hK hc i pins s σ H E I hf st hg
    subst hP hw hK
    obtain ⟨⟨old, he⟩, hi, hit⟩ := st
    have hel : e < s.heap.objs.size := Heap.lt_size he
    have hil : it < s.heap.objs.size := by obtain ⟨_, q, _⟩ := hit; exact Heap.lt_size q
    have hh : X.A.in1.handled = none := by have q := I.ok.hd hc; simpa using q
    have D : Draws X.prog X.w X.A.in1 it [it] x.cps.size (SignAt x) (fun i h => h.IsStrIter it (strIterType x) x t i) := by
      unfold strIterType
      cases x.cps.all (· < 128)
      · exact Draws.strWide hh it x t
      · exact Draws.strAscii hh it x t
    refine wpAny_pyNext_enum_itemD D he hit hg hne (by simpa using hne) fun u h' tk hu ho hit' hT hsz hk => ?_
    obtain ⟨c, u2, hcx, rfl⟩ := hu
    refine ⟨_, rfl, wpAny_letOwnedTupleGo_enum (s := { s with heap := h', toks := tk + 1 }) ho fun h'' he' sb => ?_⟩
    have hT2 := (sb.2 _ (Nat.ne_of_gt hel)).trans hT
    have new : ObjOk X.prog X.w (upd H s.heap.objs.size (.tup [.int (i : Nat), .str ⟨#[c]⟩])) h'' s.heap.objs.size (.tup [.int (i : Nat), .str ⟨#[c]⟩]) :=
      ⟨by show 2 ≤ sizeLine; decide, [.int i tk, .str ⟨#[c]⟩ u2], .cons ⟨_, rfl⟩ (.cons ⟨_, rfl⟩ .nil), ⟨_, hT2, rfl, _, rfl⟩⟩
    have I1 : Inv X pins σ (upd H s.heap.objs.size (.tup [.int (i : Nat), .str ⟨#[c]⟩])) { s with heap := h'', toks := tk + 1 } :=
      I.turnedNew (ch := [e, it]) (fun b ob hb q => (sb.2 b (fun z => hb (by simp [z]))).trans (hk b ob (fun z => hb (by simp [z])) (fun z => hb (by simp [z])) q)) hf (Nat.le_refl _) new
    refine ⟨.ref s.heap.objs.size, _, I1, rfl, ⟨_, c, rfl, I.hok.fresh (Nat.le_refl _), rfl, hcx⟩, ⟨⟨.str ⟨#[c]⟩ u2, ?_⟩, hg, ?_⟩, fun b hb => ?_⟩
    · have e1 : ((i + 1 : Nat) : Int) = (i : Int) + 1 := by omega
      rw [e1]; exact he'
    · obtain ⟨o, ho2, r⟩ := hit'
      exact ⟨o, (sb.2 it (Ne.symm hne)).trans ho2, r⟩
    · have hb' : b < s.heap.objs.size := by
        have e' : b = e ∨ b = it := by simpa using hb
        rcases e' with z | z
        · rw [z]; exact hel
        · rw [z]; exact hil
      rw [upd_ne (Nat.ne_of_lt hb')]
      exact (hf b hb).1
  done := by
    intro X hP hw hK hc i pins s σ H E I hf st hg
    subst hP hw hK
    obtain ⟨⟨old, he⟩, hi, hit⟩ := st
    have hh : X.A.in1.handled = none := by have q := I.ok.hd hc; simpa using q
    have D : Draws X.prog X.w X.A.in1 it [it] x.cps.size (SignAt x) (fun i h => h.IsStrIter it (strIterType x) x t i) := by
      unfold strIterType
      cases x.cps.all (· < 128)
      · exact Draws.strWide hh it x t
      · exact Draws.strAscii hh it x t
    obtain ⟨f0, f1, f2, f3, f4, f5⟩ := hf it (by simp)
    have ei : i = x.cps.size := Nat.le_antisymm hi hg
    subst ei
    exact wpAny_pyNext_enum_endD D he hit fun h' eb => ⟨rfl, I.turned (t' := s.toks) (fun b o hb q => eb b o hb q) f0 f1 f3 f4 f5⟩
  self := fun A i s Q E st h => let ⟨⟨_, he⟩, _⟩ := st; wpAny_pyIter_enum he h
def iEnumS (ta : TA) : TI := fun σ H R => ta σ H fun vs H1 => ∃ x, vs = [.str x] ∧ R (Ites x) H1
theorem pi_enumS {X : Cx} {e : Expr} {ta : TA} {p pos tpos : Pos} {elts : List Expr} {kk : Nat} (hg : Gl X "enumerate") (hm : X.mg "enumerate" = none) (ha : PA X [e] ta) (hs : starEach [e] X.env = [(false, eval e X.env)] := by rfl) :
    PI X (.Tuple elts kk tpos) (.Call (.Name "enumerate" p) [e] [] pos) (iEnumS ta) := by
  refine ⟨fun pins s σ H R I h => ?_⟩
  refine Call_ (ld_blt I hg hm boot_enumerate (PyProof.Rows.callWith_type1 (thn (ha.run pos pins s σ H _ I h) fun us s1 ⟨vs, H1, I1, r1, q1⟩ => ?_) hs rfl))
  obtain ⟨x, ex, q⟩ := q1
  subst ex
  cases r1 with
  | cons r rr =>
    cases rr
    obtain ⟨t, rfl⟩ := r
    refine call_enumerate_str fun h' he hit hsz hk => wpAny_pyIter_enum he ?_
    have I2 : Inv X pins σ H1 { s1 with heap := h' } := I1.kept (t' := s1.toks) hk
    refine ⟨s1.heap.objs.size + 1, [s1.heap.objs.size + 1, s1.heap.objs.size], _, _, H1, rfl, I2, turn_enumS x t (s1.heap.objs.size + 1) s1.heap.objs.size (Nat.succ_ne_self _), ⟨⟨.none, he⟩, Nat.zero_le _, hit⟩, fun b hb => ?_, q⟩
    have e' : b = s1.heap.objs.size + 1 ∨ b = s1.heap.objs.size := by simpa using hb
    have hle : s1.heap.objs.size ≤ b := by
      rcases e' with z | z
      · rw [z]; exact Nat.le_add_right _ _
      · rw [z]; exact Nat.le_refl _
    exact I1.fpOk hle (I1.hok.fresh hle)
end L2

set_option Elab.async false
set_option linter.all false
set_option maxRecDepth 100000
set_option maxHeartbeats 4000000
/-! len(o), the class has its own __len__ -/
namespace L2
open PySem PySem.Spec PyProof.Rows
def rLenOwn (C : Addr) (sp : Sp) (E : XK) : List V → Hp → VK → Prop := fun xs H Q => ∃ a dx fs, xs = [.ref a] ∧ H a = some (.ins C dx fs) ∧ sp [.ref a] H (fun v H' => ∃ n : Nat, v = .int (n : Int) ∧ n ≤ sizeLine ∧ Q (.int (n : Int)) H') E
theorem call_lenOwn {X : Cx} {CX : CXT} {k : Nat} {C f : Addr} {fd : FuncData} {ps : List Str} {sp : Sp} {E : XK} (F : FnOk X.prog X.w X.K X.mg X.base CX k f fd ps sp) (hm : Meth X.K C "__len__" f) (hb : Binds X.K fd ps []) (hx : Passes CX X E) (hr : Room (k + 1) X.A) :
    CallR X (.builtin "len") (rLenOwn C sp E) := by
  intro pins s σ H xs us Q I r h
  obtain ⟨a, dx, fs, rfl, ha, hsp⟩ := h
  obtain ⟨u, rfl, rx⟩ := vals1 r
  cases rx
  obtain ⟨mA, J, _⟩ := ins_get I.hok ha
  obtain ⟨od, J, _⟩ := J.look
  refine Calls.call_function_entry kind_len plain_len entry_len (args_len1 _) ?_
  unfold Builtin.«len»
  refine wpAny_bind (m := oneArg "len" _) (wpAny_pure ?_)
  have e0 : Env0 X.prog X.w X.K X.mg X.base X.A.in1 X.stack s H := by
    have e := I.env0
    exact ⟨e.frames, e.mod, e.bs, e.bsz, e.funs, e.frf, e.hok, e.bare⟩
  have hl := F.len _ _ _ _ hsp
  have r2 : Vals [V.ref a] [Value.ref a] := .cons rfl .nil
  have body : wpAny (model X.prog X.w) X.A.in1 (call (.ref f) [.ref a]) (fun v s' => ∃ n : Nat, (∃ t, v = .int (n : Int) t) ∧ n ≤ sizeLine ∧ ∃ H', Inv X pins σ H' s' ∧ Q (.int (n : Int)) H') X.xe s := by
    refine wpAny_call (codeAny_mono (F.run X.A.in1 X.stack s H ⟨[.ref a], []⟩ [.ref a] [.ref a] _ E hr.in1 e0 (by
      have := hb s [.ref a] I.kIn (by simpa using hl)
      simpa using this) r2 hsp) fun r s' hq => ?_)
    cases r with
    | error e => exact hx pins σ H s e s' I hq
    | ok fl =>
      cases fl with
      | ret w =>
        obtain ⟨z, H', I', rz, n, ez, hn, q⟩ := I.after hq
        subst ez
        exact ⟨n, rz, hn, H', I', q⟩
      | next => exact False.elim hq
      | brk => exact False.elim hq
      | cont => exact False.elim hq
  have special : ∀ {Q' : Option Value → Shared → Prop}, wpAny (model X.prog X.w) X.A.in1 (call (.ref f) [.ref a]) (fun v s' => Q' (some v) s') X.xe s → wpAny (model X.prog X.w) X.A.in1 (callSpecial? (.ref a) (Str.ofString "__len__")) Q' X.xe s := fun q => by
    unfold callSpecial? specialOf
    refine wpAny_bind (wpAny_bind (J.type.here ((PySem.W.looks_findIn I.kIn hm.at_).here ?_)))
    refine wpAny_holding ?_
    refine wpAny_bind ((PySem.W.bind_fn I.kIn _ (beq_iff_eq.mp hm.fn)).here ?_)
    exact wpAny_bind (wpAny_mono q (fun v s' z => wpAny_pure z) fun _ _ z => z)
  refine wpAny_bind (m := callSpecial? (.ref a) (Str.ofString "__len__")) (special (wpAny_mono body (fun v s' hv => ?_) fun _ _ z => z))
  obtain ⟨n, ⟨t, rfl⟩, hn, H', I', q⟩ := hv
  rw [sizeLine_eq] at hn
  refine wpAny_bind (wpAny_holding (wpAny_pure ?_))
  refine wpAny_bind (wpAny_letGo ?_)
  show wpAny _ _ (if ((n : Nat) : Int) < 0 then _ else _) _ _ _
  rw [if_neg (by omega)]
  show wpAny _ _ (if ((n : Nat) : Int) ≥ 2 ^ 63 then _ else _) _ _ _
  rw [if_neg (by omega)]
  exact wpAny_bind (wpAny_mkInt (wpAny_pure ⟨_, rfl, .int (n : Int), H', I'.tok _, ⟨_, rfl⟩, q⟩))
end L2

set_option Elab.async false
set_option linter.all false
set_option maxRecDepth 100000
set_option maxHeartbeats 4000000
namespace W8
open PySem L2
def top (i : Nat) : Stmt := PySem.Challenge.pw_turtlestold_k83_whole_strategies.main.body.getD i (.Pass ⟨0, 0, 0, 0⟩)

/-! ### heaps but for one object -/
def But (a : Addr) (H H' : Hp) : Prop := ∀ b o, b ≠ a → H b = some o → H' b = some o
theorem But.refl (a : Addr) (H : Hp) : But a H H := fun _ _ _ h => h
theorem But.trans {a : Addr} {H H1 H2 : Hp} (x : But a H H1) (y : But a H1 H2) : But a H H2 := fun b o n h => y b o n (x b o n h)
theorem But.upd {a : Addr} {H : Hp} {o : HO} : But a H (upd H a o) := fun b u n h => by rw [upd_ne n]; exact h
theorem But.of {a : Addr} {H H' : Hp} (s : Same H H') : But a H H' := fun b o _ h => s b o h
theorem same_new {H : Hp} {p : Addr} (h : H p = none) (o : HO) : Same H (L2.upd H p o) := fun b u q => by rw [upd_ne (ne_of_none q h)]; exact q
theorem But.new {a p : Addr} {H : Hp} (h : H p = none) (o : HO) : But a H (L2.upd H p o) := But.of (same_new h o)
/-- what was new before and stays so -/
theorem But.seq {K : PySem.W.Frag} {a p : Addr} {H H' : Hp} {xs : List V} (x : But a H H') (n : p ≠ a) (h : SqL K H p xs) : SqL K H' p xs := by
  rcases h with (h | ⟨o, h⟩) | h
  · exact .inl (.inl (x _ _ n h))
  · exact .inl (.inr ⟨o, x _ _ n h⟩)
  · exact .inr h
theorem But.tup {K : PySem.W.Frag} {a p : Addr} {H H' : Hp} {xs : List V} (x : But a H H') (n : p ≠ a) (h : SqT K H p xs) : SqT K H' p xs := by
  rcases h with (h | ⟨o, h⟩) | h
  · exact .inl (.inl (x _ _ n h))
  · exact .inl (.inr ⟨o, x _ _ n h⟩)
  · exact .inr h
theorem sz {n : Nat} (h : n ≤ 100000) : n ≤ sizeLine := Nat.le_trans h (by decide)

theorem at_map {α : Type} (g : α → V) {cs : List α} {i : Int} (h0 : 0 ≤ i) (h : i < (cs.length : Int)) : ∃ z, z ∈ cs ∧ cs[i.toNat]? = some z ∧ atI (cs.map g) i = some (g z) := by
  have hi : i.toNat < cs.length := by omega
  have ei : i = (i.toNat : Int) := by omega
  refine ⟨cs[i.toNat], List.getElem_mem hi, List.getElem?_eq_getElem hi, ?_⟩
  have q : atI (cs.map g) (i.toNat : Int) = some (g cs[i.toNat]) := atI_nat (by rw [List.getElem?_map, List.getElem?_eq_getElem hi] <;> rfl)
  rw [← ei] at q
  exact q
theorem int_eq {i j : Int} (h : decide (V.int i = V.int j) = true) : i = j := by
  have e := of_decide_eq_true h
  injection e
theorem int_ne {i j : Int} (h : ¬ decide (V.int i = V.int j) = true) : i ≠ j := fun e => h (decide_eq_true (by rw [e]))
theorem dec_ff {p : Prop} [Decidable p] (h : ¬ decide p = true) : ¬ p := fun e => h (decide_eq_true e)
/-! ### the list that draws -/
def stL (p : Addr) (i v l m : Int) : List V := [.ref p, .int i, .int v, .int l, .int m]
structure StAt (K : PySem.W.Frag) (H : Hp) (a p : Addr) (cs : List Int) (i v l m : Int) : Prop where
  h : H a = some (.lst (stL p i v l m))
  c : H p = some (.lst (cs.map V.int))
  ne : p ≠ a
  b : ∀ z ∈ cs, Builtin.Int.intBits z ≤ 1048576
  n : cs.length ≤ 63
  i0 : 0 ≤ i
  v0 : 0 ≤ v
  m0 : m = 1 ∨ v < 2147483647
def StOk (K : PySem.W.Frag) (H : Hp) (a p : Addr) : Prop := ∃ cs i v l m, StAt K H a p cs i v l m
theorem StAt.put {K : PySem.W.Frag} {H : Hp} {a p : Addr} {cs : List Int} {i v l m i' v' l' m' : Int} (s : StAt K H a p cs i v l m) (xs : List V) (e : xs = stL p i' v' l' m') (hi : 0 ≤ i') (hv : 0 ≤ v') (hm : m' = 1 ∨ v' < 2147483647) : StAt K (upd H a (.lst xs)) a p cs i' v' l' m' :=
  ⟨by rw [upd_same, e], But.upd _ _ s.ne s.c, s.ne, s.b, s.n, hi, hv, hm⟩

/-! ### a def that may be called by its name -/
structure Cal (P : Program) (w : World) (K : PySem.W.Frag) (mg : Str → Option Value) (base : Heap) (x : Str) (k : Nat) (ps : List Str) (sp : Sp) : Prop where
  ex : ∃ (f : Addr) (fd : FuncData), FnOk P w K mg base CX0 k f fd ps sp ∧ mg x = some (.ref f) ∧ PySem.W.keepIn K (.ref f) = true ∧ Binds K fd ps []
section
variable {X : Cx} {x : Str} {k j : Nat} {ps : List Str} {sp : Sp} {p pos : Pos} {e : Expr} {es : List Expr} {t : TA}
theorem pcall (C : Cal X.prog X.w X.K X.mg X.base x k ps sp) (hr : Room j X.A) (ha : PA X (e :: es) t) (hk : k ≤ j := by decide) (hg : Gl X x := by rfl) (hdb : (x == ("__debug__" : Str)) = false := by decide)
    (he : starEach (e :: es) X.env = (false, eval e X.env) :: starEach es X.env := by rfl) (hpl : (backTo pos (starEach es X.env)).any (·.1) = false := by rfl) : PE X (.Call (.Name x p) (e :: es) [] pos) (tCall sp [] E0 t) := by
  obtain ⟨f, fd, G, hm, kp, b⟩ := C.ex
  exact pe_call G (hr.mono hk) hg hm kp b .nil pass0 ha hdb he hpl
/-- built-ins by their names -/
theorem pB1 {a : Expr} {ta : TE} {id : String} {r : List V → Hp → VK → Prop} (hc : CallR X (.builtin id) r) (tl : X.mg x = none) (ha : PE X a ta) (hv : bootBuiltins x = some (.builtin id) := by decide +kernel) (hg : Gl X x := by rfl) (hn : x ≠ "__name__" := by decide)
    (hdb : (x == ("__debug__" : Str)) = false := by decide) (hs : starEach [a] X.env = (false, eval a X.env) :: starEach [] X.env := by rfl) : PE X (.Call (.Name x p) [a] [] pos) (tCB r (tCons ta tNil)) :=
  pe_callB hc hg tl hv (pa_cons ha pa_nil hs) hn hdb hs
theorem pT1 {a : Expr} {ta : TE} {T : String} {r : List V → Hp → VK → Prop} (hc : CallR X (.type T) r) (tl : X.mg x = none) (ha : PE X a ta) (hv : bootBuiltins x = some (.type T) := by decide +kernel) (hg : Gl X x := by rfl) (hn : x ≠ "__name__" := by decide)
    (hdb : (x == ("__debug__" : Str)) = false := by decide) (hs : starEach [a] X.env = (false, eval a X.env) :: starEach [] X.env := by rfl) : PE X (.Call (.Name x p) [a] [] pos) (tCB r (tCons ta tNil)) :=
  pe_callTy hc hg tl hv (pa_cons ha pa_nil hs) hn hdb hs
def rTupOf (K : PySem.W.Frag) : List V → Hp → VK → Prop := fun xs H Q => ∃ p ys, xs = [.ref p] ∧ ((SqL K H p ys ∧ ∀ l, H l = none → Q (.ref l) (upd H l (.tup ys))) ∨ (SqT K H p ys ∧ Q (.ref p) H))
theorem cr_tupOf : CallR X (.type "tuple") (rTupOf X.K) := call_tuple_of
def rLstOf (K : PySem.W.Frag) : List V → Hp → VK → Prop := fun xs H Q => ∃ p ys, xs = [.ref p] ∧ (SqL K H p ys ∨ SqT K H p ys) ∧ ∀ l, H l = none → Q (.ref l) (upd H l (.lst ys))
theorem cr_lstOf : CallR X (.type "list") (rLstOf X.K) := call_list_of
def rLenOf (K : PySem.W.Frag) : List V → Hp → VK → Prop := fun xs H Q => ∃ p ys, xs = [.ref p] ∧ (SqL K H p ys ∨ SqT K H p ys) ∧ Q (.int ys.length) H
theorem cr_lenOf : CallR X (.builtin "len") (rLenOf X.K) := call_len_seq
variable {a b o : Expr} {ta tb : TE}
abbrev pixL (ha : PE X a ta) (hb : PE X b tb) (hs : PlainIx b := by exact fun _ _ => rfl) : PE X (.Subscript a b pos) (tOp (rIxL X.K) ta tb) := pe_ix ix_list ha hb hs
abbrev pixT (ha : PE X a ta) (hb : PE X b tb) (hs : PlainIx b := by exact fun _ _ => rfl) : PE X (.Subscript a b pos) (tOp (rIxT X.K) ta tb) := pe_ix ix_tup ha hb hs
abbrev pixS (ha : PE X a ta) (hb : PE X b tb) (hs : PlainIx b := by exact fun _ _ => rfl) : PE X (.Subscript a b pos) (tOp rIxS ta tb) := pe_ix ix_str ha hb hs
end

/-! ### texts as lists of codes -/
def S (w : List Nat) : Str := ⟨w.toArray⟩
theorem S_len (w : List Nat) : (S w).length = w.length := rfl
theorem S_app (u v : List Nat) : S u ++ S v = S (u ++ v) := by
  show (⟨u.toArray ++ v.toArray⟩ : Str) = ⟨(u ++ v).toArray⟩
  rw [List.append_toArray]
theorem S_one (c : Nat) : (⟨#[c]⟩ : Str) = S [c] := rfl
theorem S_inj {u v : List Nat} (h : S u = S v) : u = v := by
  have : u.toArray = v.toArray := congrArg Str.cps h
  simpa using this
theorem S_of (z : Str) : z = S z.cps.toList := by
  cases z
  rfl
theorem S_codes (w : List Nat) : (S w).cps.toList = w := rfl
theorem at_S {w : List Nat} {i : Int} (h0 : 0 ≤ i) (h : i < (w.length : Int)) : ∃ c, c ∈ w ∧ w[i.toNat]? = some c ∧ atI (S w).cps.toList i = some c := by
  have hi : i.toNat < w.length := by omega
  have ei : i = (i.toNat : Int) := by omega
  refine ⟨w[i.toNat], List.getElem_mem hi, List.getElem?_eq_getElem hi, ?_⟩
  have q : atI w (i.toNat : Int) = some w[i.toNat] := atI_nat (List.getElem?_eq_getElem hi)
  rw [← ei] at q
  exact q
end W8

set_option Elab.async false
set_option linter.all false
set_option maxRecDepth 100000
set_option maxHeartbeats 4000000
namespace W8
open PySem L2
abbrev sDraw : Stmt := top 19
theorem scDraw : FnScope ["state", "many", "cell", "digit"] ["state", "many"] (defScope sDraw) := ⟨rfl, rfl, rfl, by decide +kernel, rfl, by decide +kernel, by decide +kernel⟩
/-- a number below many, and the drawing list goes on -/
def spDraw (K : PySem.W.Frag) : Sp := fun vs H Q _ => ∃ (a : Addr) (m : Int), vs = [.ref a, .int m] ∧ 1 ≤ m ∧ m ≤ 1000 ∧ ∃ p, StOk K H a p ∧ ∀ r H', 0 ≤ r → r < m → But a H H' → StOk K H' a p → Q (.int r) H'
section
variable {P : Program} {w : World} {K : PySem.W.Frag} {mg : Str → Option Value} {base : Heap}
theorem ok_draw {f : Addr} {fd : FuncData} (F : Fun K "_law_draw" "_law_draw" sDraw f fd) (tl : mg "len" = none) (ti : mg "int" = none) : FnOk P w K mg base CX0 1 f fd ["state", "many"] (spDraw K) := by
  refine F.ok scDraw (fun vs H Q E h => ?_) (fun cdv A outer s H vs Q E hr h => ?_)
  · obtain ⟨a, m, rfl, _⟩ := h
    rfl
  obtain ⟨a, many, rfl, m1, m2, p, ⟨cs, i, v, l, m, S⟩, q⟩ := h
  refine ⟨_, C8.pss_cut (ps_if (PW.pt (pw_and (pt_cmpR op_eq (pixL (pv 0) pe_int) pe_int (nomark _))
        (pw_and1 (pt_cmpR op_lt (pixL (pv 0) pe_int) (pB1 call_len_seq tl (pixL (pv 0) pe_int)) (nomark _)))))
      (pss_cons (ps_set (i := 2) scDraw.nd rfl (Or.inl rfl) (pixL (pixL (pv 0) pe_int) (pixL (pv 0) pe_int)))
        (pss_cons (ps_asg (pe_op op_add (pixL (pv 0) pe_int) pe_int) (pg_sub (pv 0) pe_int set_list))
        (pss_one (ps_if (pt_cmpR op_ge (pv 2) (pe_op op_pow pe_int pe_int) (nomark _))
          (pss_cons (ps_asg (pe_op op_sub (pv 2) (pe_op op_pow pe_int pe_int)) (pg_sub (pv 0) pe_int set_list))
            (pss_cons (ps_asg pe_int (pg_sub (pv 0) pe_int set_list)) (pss_one (ps_asg pe_int (pg_sub (pv 0) pe_int set_list)))))
          (pss_cons (ps_asg (pe_op op_mod (pT1 call_int1 ti (pe_op op_mulB (pv 2) pe_int)) pe_int) (pg_sub (pv 0) pe_int set_list))
            (pss_cons (ps_asg pe_int (pg_sub (pv 0) pe_int set_list)) (pss_one (ps_asg pe_int (pg_sub (pv 0) pe_int set_list)))))))))
      pss_nil)
    (pss_cons (ps_if (pt_cmpR op_eq (pixL (pv 0) pe_int) pe_int (nomark _)) (pss_one (ps_ret pe_int)) pss_nil)
    (pss_cons (ps_asg (pe_op op_sub (pixL (pv 0) pe_int) pe_int) (pg_sub (pv 0) pe_int set_list))
    (pss_cons (ps_if (pt_cmpR op_eq (pixL (pv 0) pe_int) pe_int (nomark _))
      (pss_cons (ps_set (i := 3) scDraw.nd rfl (Or.inl rfl) (pe_op op_mod (pT1 call_int1 ti (pixL (pv 0) pe_int)) (pv 1)))
        (pss_cons (ps_asg (pe_op op_fdiv (pixL (pv 0) pe_int) (pv 1)) (pg_sub (pv 0) pe_int set_list))
        (pss_cons (ps_if (pt_cmpR op_eq (pixL (pv 0) pe_int) pe_int (nomark _)) (pss_one (ps_asg pe_int (pg_sub (pv 0) pe_int set_list))) pss_nil)
        (pss_one (ps_ret (pv 3)))))) pss_nil)
    (pss_cons (ps_asg (pe_op op_mod (pT1 call_int1 ti (pe_op op_mul (pixL (pv 0) pe_int) pe_int)) pe_int) (pg_sub (pv 0) pe_int set_list))
    (pss_one (ps_ret (pe_op op_mod (pT1 call_int1 ti (pe_op op_fdiv (pixL (pv 0) pe_int) pe_int)) (pv 1)))))))), ?_⟩
  refine ⟨fun σ' H' => ∃ (x : Option V) (cs : List Int) (i v l m : Int), σ' = [some (.ref a), some (.int many), x, none] ∧ But a H H' ∧ StAt K H' a p cs i v l m, ?_, ?_⟩
  · -- if state[3] == 0 and state[1] < len(state[0]): ..
    refine ⟨_, rfl, _, _, _, _, rfl, rfl, SqL.of S.h, rfl, rfl, _, rfl, ?_⟩
    refine ite2 (fun e1 => ?_) (fun _ => ?_)
    · refine ⟨_, rfl, _, _, _, _, rfl, rfl, SqL.of S.h, rfl, _, rfl, _, _, _, _, rfl, rfl, SqL.of S.h, rfl, _, _, rfl, .inl (SqL.of S.c), _, _, rfl, rfl, _, rfl, ?_⟩
      refine ite2 (fun e2 => ?_) (fun _ => ?_)
      · have e2' : i < ((cs.map V.int).length : Int) := of_decide_eq_true e2
        rw [List.length_map] at e2'
        obtain ⟨cell, hm, _, hat⟩ := at_map V.int S.i0 e2'
        have hb := S.b _ hm
        refine ⟨_, rfl, _, _, _, _, rfl, rfl, SqL.of S.h, rfl, _, rfl, _, _, _, _, rfl, rfl, SqL.of S.h, rfl, _, _, _, _, rfl, rfl, SqL.of S.c, hat, ?_⟩
        -- state[1] = state[1] + 1
        refine ⟨_, rfl, _, _, _, _, rfl, rfl, SqL.of S.h, rfl, _, _, rfl, rfl, _, rfl, _, _, _, _, rfl, rfl, S.h, rfl, ?_⟩
        have S1 : StAt K (upd H a (.lst (stL p (i + 1) v l m))) a p cs (i + 1) v l m := S.put _ rfl (by have := S.i0; omega) S.v0 S.m0
        have B1 : But a H (upd H a (.lst (stL p (i + 1) v l m))) := But.upd
        refine ⟨_, rfl, _, _, rfl, rfl, ⟨by decide, by decide, by decide⟩, _, _, rfl, rfl, _, rfl, ?_⟩
        refine ite2 (fun e3 => ?_) (fun _ => ?_)
        · -- state[2] = cell - 10 ** 18; state[3] = 60; state[4] = 1
          have e3' : (10 : Int) ^ 18 ≤ cell := of_decide_eq_true e3
          refine ⟨_, rfl, _, _, rfl, rfl, ⟨by decide, by decide, by decide⟩, _, _, rfl, rfl, _, rfl, _, _, _, _, rfl, rfl, S1.h, rfl, ?_⟩
          refine ⟨_, rfl, _, _, _, _, rfl, rfl, upd_same, rfl, ?_⟩
          refine ⟨_, rfl, _, _, _, _, rfl, rfl, upd_same, rfl, ?_⟩
          rw [upd_upd, upd_upd]
          exact ⟨some (.int cell), cs, i + 1, cell - 10 ^ 18, 60, 1, rfl, B1.trans But.upd, S1.put _ rfl S1.i0 (by omega) (.inl rfl)⟩
        · refine ⟨_, rfl, _, _, rfl, rfl, ⟨by omega, by decide⟩, .inl ⟨_, rfl, _, _, rfl, rfl, (by show (0 : Int) < 2147483647; decide), _, rfl, _, _, _, _, rfl, rfl, S1.h, rfl, ?_⟩⟩
          refine ⟨_, rfl, _, _, _, _, rfl, rfl, upd_same, rfl, ?_⟩
          refine ⟨_, rfl, _, _, _, _, rfl, rfl, upd_same, rfl, ?_⟩
          rw [upd_upd, upd_upd]
          exact ⟨some (.int cell), cs, i + 1, cell * 48271 % 2147483647, 5, 0, rfl, B1.trans But.upd, S1.put _ rfl S1.i0 (by omega) (.inr (by omega))⟩
      · exact ⟨none, cs, i, v, l, m, rfl, But.refl _ _, S⟩
    · exact ⟨none, cs, i, v, l, m, rfl, But.refl _ _, S⟩
  · rintro σ' H1 ⟨x, cs, i, v, l, m, rfl, B, S⟩
    -- if state[3] == 0: return 0
    refine ⟨_, rfl, _, _, _, _, rfl, rfl, SqL.of S.h, rfl, rfl, _, rfl, ?_⟩
    refine ite2 (fun _ => ?_) (fun _ => ?_)
    · exact q 0 H1 (by omega) (by omega) B ⟨_, _, _, _, _, S⟩
    -- state[3] = state[3] - 1
    refine ⟨_, rfl, _, _, _, _, rfl, rfl, SqL.of S.h, rfl, _, _, rfl, rfl, _, rfl, _, _, _, _, rfl, rfl, S.h, rfl, ?_⟩
    have S1 : StAt K (upd H1 a (.lst (stL p i v (l - 1) m))) a p cs i v (l - 1) m := S.put _ rfl S.i0 S.v0 S.m0
    have B1 : But a H (upd H1 a (.lst (stL p i v (l - 1) m))) := B.trans But.upd
    refine ⟨_, rfl, _, _, _, _, rfl, rfl, SqL.of S1.h, rfl, rfl, _, rfl, ?_⟩
    refine ite2 (fun e1 => ?_) (fun e1 => ?_)
    · -- digit = int(state[2]) % many; state[2] = state[2] // many
      refine ⟨_, rfl, _, _, _, _, rfl, rfl, SqL.of S1.h, rfl, .inl ⟨_, rfl, _, rfl, _, _, rfl, rfl, (by show 0 < many; omega), ?_⟩⟩
      refine ⟨_, rfl, _, _, _, _, rfl, rfl, SqL.of S1.h, rfl, _, rfl, _, _, rfl, rfl, ⟨by omega, by omega⟩, _, rfl, _, _, _, _, rfl, rfl, S1.h, rfl, ?_⟩
      have v1 : 0 ≤ v / many := Int.ediv_nonneg S1.v0 (by omega)
      have hm1 := int_eq e1
      refine ⟨_, rfl, _, _, _, _, rfl, rfl, SqL.of upd_same, rfl, rfl, _, rfl, ?_⟩
      have d0 : 0 ≤ v % many := Int.emod_nonneg _ (by omega)
      have d1 : v % many < many := Int.emod_lt_of_pos _ (by omega)
      refine ite2 (fun _ => ?_) (fun _ => ?_)
      · refine ⟨_, rfl, _, _, _, _, rfl, rfl, upd_same, rfl, ?_⟩
        rw [upd_upd]
        exact ⟨_, rfl, q _ _ d0 d1 (B1.trans But.upd) ⟨cs, i, v / many, 0, m, S1.put _ rfl S1.i0 v1 (.inl hm1)⟩⟩
      · exact ⟨_, rfl, q _ _ d0 d1 (B1.trans But.upd) ⟨cs, i, v / many, l - 1, m, S1.put _ rfl S1.i0 v1 (.inl hm1)⟩⟩
    · have v2 : v < 2147483647 := S1.m0.resolve_left (int_ne e1)
      have v0 := S1.v0
      refine ⟨_, rfl, _, _, _, _, rfl, rfl, SqL.of S1.h, rfl, _, _, rfl, rfl, .inl ⟨by omega, by omega⟩, .inl ⟨_, rfl, _, _, rfl, rfl, (by show (0 : Int) < 2147483629; decide), _, rfl, _, _, _, _, rfl, rfl, S1.h, rfl, ?_⟩⟩
      refine ⟨_, rfl, _, _, _, _, rfl, rfl, SqL.of upd_same, rfl, _, _, rfl, rfl, ⟨by decide, by decide⟩, .inl ⟨_, rfl, _, rfl, _, _, rfl, rfl, (by show 0 < many; omega), ?_⟩⟩
      exact q _ _ (Int.emod_nonneg _ (by omega)) (Int.emod_lt_of_pos _ (by omega)) (B1.trans But.upd) ⟨cs, i, v * 69621 % 2147483629, l - 1, m, S1.put _ rfl S1.i0 (by omega) (.inr (by omega))⟩
end
end W8

set_option Elab.async false
set_option linter.all false
set_option maxRecDepth 100000
set_option maxHeartbeats 4000000
namespace W8
open PySem L2
abbrev sLetters : Stmt := top 21
theorem scLetters : FnScope ["state", "most", "small", "count", "at", "letters", "k"] ["state", "most"] (defScope sLetters) := ⟨rfl, rfl, rfl, by decide +kernel, rfl, by decide +kernel, by decide +kernel⟩
/-- the small letters -/
def small : List Nat := (List.range 26).map (· + 97)
theorem small_eq : ("abcdefghijklmnopqrstuvwxyz" : Str) = S small := by decide +kernel
theorem small_at {i : Int} (h0 : 0 ≤ i) (h : i < 26) : atI (S small).cps.toList i = some (i.toNat + 97) := by
  obtain ⟨c, _, hc, hat⟩ := at_S (w := small) h0 (by show i < 26; exact h)
  rw [hat, ← hc]
  unfold small
  rw [List.getElem?_map, List.getElem?_range (by omega)] <;> rfl
/-- letters in ascending order, the last one at most the place n -/
structure Alph (al : List Nat) (n : Nat) : Prop where
  ne : al ≠ []
  asc : al.Pairwise (· < ·)
  lo : ∀ c ∈ al, 97 ≤ c ∧ c ≤ n + 97
def spLetters (K : PySem.W.Frag) : Sp := fun vs H Q _ => ∃ (a : Addr) (m : Int), vs = [.ref a, .int m] ∧ 1 ≤ m ∧ m ≤ 3 ∧ ∃ p, StOk K H a p ∧ ∀ al H', Alph al (8 * al.length - 1) → (al.length : Int) ≤ m → But a H H' → StOk K H' a p → Q (.str (S al)) H'
section
variable {P : Program} {w : World} {K : PySem.W.Frag} {mg : Str → Option Value} {base : Heap}
theorem ok_letters {f : Addr} {fd : FuncData} (F : Fun K "_law_letters" "_law_letters" sLetters f fd) (tr : mg "range" = none) (D : Cal P w K mg base "_law_draw" 1 ["state", "many"] (spDraw K)) : FnOk P w K mg base CX0 2 f fd ["state", "most"] (spLetters K) := by
  refine F.ok scLetters (fun vs H Q E h => ?_) (fun cdv A outer s H vs Q E hr h => ?_)
  · obtain ⟨a, m, rfl, _⟩ := h
    rfl
  obtain ⟨a, most, rfl, m1, m2, p, S0, q⟩ := h
  refine ⟨_, pss_cons (ps_set (i := 2) scLetters.nd rfl (Or.inl rfl) pe_str)
    (pss_cons (ps_set (i := 3) scLetters.nd rfl (Or.inl rfl) (pe_op op_add pe_int (pcall D hr (pa_cons (pv 0) (pa_cons (pv 1) pa_nil)))))
    (pss_cons (ps_set (i := 4) scLetters.nd rfl (Or.inl rfl) (pcall D hr (pa_cons (pv 0) (pa_cons pe_int pa_nil))))
    (pss_cons (ps_set (i := 5) scLetters.nd rfl (Or.inl rfl) (pixS (pv 2) (pv 4)))
    (pss_cons (ps_for PassesOwn.never rfl (pi_range1 (by rfl) tr (pa_cons (pe_op op_sub (pv 3) pe_int) pa_nil)) (pg_name (i := 6) scLetters.nd rfl (Or.inl rfl))
      (pss_cons (ps_set (i := 4) scLetters.nd rfl (Or.inl rfl) (pe_op op_add (pe_op op_add (pv 4) pe_int) (pcall D hr (pa_cons (pv 0) (pa_cons pe_int pa_nil)))))
      (pss_one (ps_set (i := 5) scLetters.nd rfl (Or.inl rfl) (pe_op op_add_str (pv 5) (pixS (pv 2) (pv 4)))))))
    (pss_one (ps_ret (pv 5))))))), ?_⟩
  refine ⟨_, rfl, _, rfl, a, most, rfl, m1, by omega, _, S0, fun c H1 c0 c1 B1 S1 => ?_⟩
  refine ⟨_, _, rfl, rfl, _, rfl, a, 8, rfl, by omega, by omega, _, S1, fun t H2 t0 t1 B2 S2 => ?_⟩
  refine ⟨_, rfl, _, rfl, S small, t, _, by rw [small_eq], rfl, by decide, small_at t0 (by omega), ?_⟩
  refine ⟨_, rfl, _, _, rfl, rfl, _, rfl, by omega, by omega, ?_⟩
  have en : (1 + c - 1).toNat = c.toNat := by omega
  rw [en]
  refine for_range (lo := 0) (n := c.toNat) (fun i σ H' => ∃ (al : List Nat) (x : Nat) (kk : Option V), σ = [some (.ref a), some (.int most), some (.str (S small)), some (.int (1 + c)), some (.int (x : Int)), some (.str (S al)), kk] ∧
      al.length = i + 1 ∧ x + 1 ≤ 8 * (i + 1) ∧ al.Pairwise (· < ·) ∧ (∀ y ∈ al, 97 ≤ y ∧ y ≤ x + 97) ∧ But a H H' ∧ StOk K H' a p) ?_ ?_ ?_
  · refine ⟨[t.toNat + 97], t.toNat, none, ?_, rfl, by omega, List.pairwise_singleton _ _, fun y hy => ?_, B1.trans B2, S2⟩
    · rw [Int.toNat_of_nonneg t0, small_eq]
      rfl
    · rw [List.mem_singleton.mp hy]
      omega
  · rintro i σ H3 hi ⟨al, x, kk, rfl, l1, l2, pw, lo, B3, S3⟩
    refine ⟨_, rfl, _, _, rfl, rfl, _, rfl, a, 8, rfl, by omega, by omega, _, S3, fun u H4 u0 u1 B4 S4 => ?_⟩
    refine ⟨_, _, rfl, rfl, _, rfl, _, rfl, _, rfl, S small, _, _, rfl, rfl, by decide, small_at (i := (x : Int) + 1 + u) (by omega) (by omega), _, _, rfl, rfl, ?_, ?_⟩
    · rw [S_len]
      exact sz (by show al.length + 1 ≤ 100000; omega)
    refine ⟨al ++ [((x : Int) + 1 + u).toNat + 97], ((x : Int) + 1 + u).toNat, some (.int (0 + (i : Int))), ?_, by rw [List.length_append, l1] <;> rfl, by omega, ?_, fun y hy => ?_, B3.trans B4, S4⟩
    · rw [Int.toNat_of_nonneg (by omega), S_one, S_app]
      rfl
    · refine List.pairwise_append.mpr ⟨pw, List.pairwise_singleton _ _, fun y hy z hz => ?_⟩
      have := lo y hy
      rw [List.mem_singleton.mp hz]
      omega
    · rcases List.mem_append.mp hy with h | h
      · have := lo y h
        omega
      · rw [List.mem_singleton.mp h]
        omega
  · rintro σ H3 ⟨al, x, kk, rfl, l1, l2, pw, lo, B3, S3⟩
    refine ⟨_, rfl, q al H3 ⟨(fun e => by rw [e] at l1; cases l1), pw, fun y hy => ?_⟩ (by omega) B3 S3⟩
    have := lo y hy
    omega
end
end W8

set_option Elab.async false
set_option linter.all false
set_option maxRecDepth 100000
set_option maxHeartbeats 4000000
namespace W8
open PySem L2
/-! ### walks of comprehensions by a word over what is made so far -/
section
variable {K : PySem.W.Frag} {body : V → Hp → (Hp → Prop) → Prop} {Qn : Hp → Prop} {H0 : Hp}
theorem walk_t {a : Addr} {xs : List V} (Pv : Nat → Hp → Prop) (h0 : Pv 0 H0) (hl : ∀ i H, Pv i H → SqT K H a xs) (hs : ∀ i x H, xs[i]? = some x → Pv i H → body x H (Pv (i + 1))) (hd : ∀ H, Pv xs.length H → Qn H) :
    ∃ W : Nat → Nat → Hp → Prop, (∃ m, W 0 m H0) ∧ ∀ i m H, W i m H → ((Itt K a).stop i H ∧ Qn H) ∨ ((Itt K a).go i H ∧ ∃ Nx : Hp → Prop, (∀ H', Nx H' → ∃ m', m' < m ∧ W (i + 1) m' H') ∧ ∀ x H', (Itt K a).yld i H x H' → body x H' Nx) := by
  refine ⟨fun i m H => m = xs.length - i ∧ i ≤ xs.length ∧ Pv i H, ⟨xs.length, by simp, Nat.zero_le _, h0⟩, ?_⟩
  rintro i m H ⟨rfl, hi, p⟩
  have q := hl i H p
  by_cases hlt : i < xs.length
  · refine .inr ⟨⟨xs, xs[i], q, by simp [hlt]⟩, Pv (i + 1), fun H' p' => ⟨xs.length - (i + 1), by omega, rfl, hlt, p'⟩, fun x H' y => ?_⟩
    obtain ⟨e, y⟩ := y
    subst e
    exact hs i x _ (y xs q) p
  · have e : i = xs.length := by omega
    subst e
    exact .inl ⟨⟨xs, q, Nat.le_refl _⟩, hd H p⟩
theorem walk_l {a : Addr} {xs : List V} (Pv : Nat → Hp → Prop) (h0 : Pv 0 H0) (hl : ∀ i H, Pv i H → SqL K H a xs) (hs : ∀ i x H, xs[i]? = some x → Pv i H → body x H (Pv (i + 1))) (hd : ∀ H, Pv xs.length H → Qn H) :
    ∃ W : Nat → Nat → Hp → Prop, (∃ m, W 0 m H0) ∧ ∀ i m H, W i m H → ((Itl K a).stop i H ∧ Qn H) ∨ ((Itl K a).go i H ∧ ∃ Nx : Hp → Prop, (∀ H', Nx H' → ∃ m', m' < m ∧ W (i + 1) m' H') ∧ ∀ x H', (Itl K a).yld i H x H' → body x H' Nx) := by
  refine ⟨fun i m H => m = xs.length - i ∧ i ≤ xs.length ∧ Pv i H, ⟨xs.length, by simp, Nat.zero_le _, h0⟩, ?_⟩
  rintro i m H ⟨rfl, hi, p⟩
  have q := hl i H p
  by_cases hlt : i < xs.length
  · refine .inr ⟨⟨xs, xs[i], q, by simp [hlt]⟩, Pv (i + 1), fun H' p' => ⟨xs.length - (i + 1), by omega, rfl, hlt, p'⟩, fun x H' y => ?_⟩
    obtain ⟨e, y⟩ := y
    subst e
    exact hs i x _ (y xs q) p
  · have e : i = xs.length := by omega
    subst e
    exact .inl ⟨⟨xs, q, Nat.le_refl _⟩, hd H p⟩
theorem walk_r {lo : Int} {n : Nat} (Pv : Nat → Hp → Prop) (h0 : Pv 0 H0) (hs : ∀ i H, i < n → Pv i H → body (.int (lo + (i : Nat))) H (Pv (i + 1))) (hd : ∀ H, Pv n H → Qn H) :
    ∃ W : Nat → Nat → Hp → Prop, (∃ m, W 0 m H0) ∧ ∀ i m H, W i m H → ((Itr lo n).stop i H ∧ Qn H) ∨ ((Itr lo n).go i H ∧ ∃ Nx : Hp → Prop, (∀ H', Nx H' → ∃ m', m' < m ∧ W (i + 1) m' H') ∧ ∀ x H', (Itr lo n).yld i H x H' → body x H' Nx) := by
  refine ⟨fun i m H => m = n - i ∧ i ≤ n ∧ Pv i H, ⟨n, by simp, Nat.zero_le _, h0⟩, ?_⟩
  rintro i m H ⟨rfl, hi, p⟩
  by_cases hlt : i < n
  · refine .inr ⟨hlt, Pv (i + 1), fun H' p' => ⟨n - (i + 1), by omega, rfl, hlt, p'⟩, fun x H' y => ?_⟩
    obtain ⟨e, y⟩ := y
    subst e y
    exact hs i _ hlt p
  · have e : i = n := by omega
    subst e
    exact .inl ⟨Nat.le_refl _, hd H p⟩
end
/-- no test stands in the comprehension -/
theorem yes {σ : L2.St} {H : Hp} {A B : Hp → Prop} (h : A H) : tYes σ H (fun b H' => if b = true then A H' else B H') := by
  show if true = true then A H else B H
  rw [if_pos rfl]
  exact h
theorem small_lt {n : Nat} (h : n < 100000) : n < sizeLine := Nat.lt_of_lt_of_le h (by decide)
/-- a value is made by the element of a comprehension, the list at D grows -/
theorem grown {H4 : Hp} {D : Addr} {acc : List V} {y : V} {N : Hp → Prop} (h : H4 D = some (.lst acc)) (hn : acc.length < 100000) (q : N (upd H4 D (.lst (acc ++ [y])))) : ∃ acc', H4 D = some (.lst acc') ∧ acc'.length < sizeLine ∧ N (upd H4 D (.lst (acc' ++ [y]))) :=
  ⟨acc, h, small_lt hn, q⟩
theorem take_succ_map {α : Type} (g : α → V) {xs : List α} {i : Nat} {x : α} (h : xs[i]? = some x) : (xs.take (i + 1)).map g = (xs.take i).map g ++ [g x] := by
  rw [List.take_add_one, h, List.map_append]
  rfl
end W8

set_option Elab.async false
set_option linter.all false
set_option maxRecDepth 100000
set_option maxHeartbeats 4000000
namespace W8
open PySem L2 NK
/-- the letter of a place, as a text -/
def ltS (w : List Nat) (p : Nat) : List Nat := if p = 0 then [] else [w.getD (p - 1) 0]
def cmpI (a b : Nat) : Int := (if b < a then 1 else 0) - (if a < b then 1 else 0)
def letsOf (w ps : List Nat) : List Str := ps.map fun p => S (ltS w p)
def ordOf (ps : List Nat) : List Int := ps.flatMap fun a => ps.map fun b => cmpI a b
def plainK (w ps : List Nat) : List Itm := [.inr ((letsOf w ps).map Sum.inr), .inr ((ordOf ps).map Sum.inl)]

abbrev sLetter_at : Stmt := top 13
theorem scLetter_at : FnScope ["word", "place"] ["word", "place"] (defScope sLetter_at) := ⟨rfl, rfl, rfl, by decide +kernel, rfl, by decide +kernel, by decide +kernel⟩
def spLetter_at : Sp := fun vs H Q _ => ∃ (u : List Nat) (p : Nat), vs = [.str (S u), .int (p : Int)] ∧ p ≤ u.length ∧ u.length ≤ 1000 ∧ Q (.str (S (ltS u p))) H
section
variable {P : Program} {w : World} {K : PySem.W.Frag} {mg : Str → Option Value} {base : Heap}
theorem ok_letter_at {f : Addr} {fd : FuncData} (F : Fun K "letter_at" "letter_at" sLetter_at f fd) : FnOk P w K mg base CX0 1 f fd ["word", "place"] spLetter_at := by
  refine F.ok scLetter_at (fun vs H Q E h => ?_) (fun cdv A outer s H vs Q E hr h => ?_)
  · obtain ⟨u, p, rfl, _⟩ := h
    rfl
  obtain ⟨u, p, rfl, hp, hu, q⟩ := h
  refine ⟨_, (pss_cons (ps_if (pt_cmpR op_eq (pv 1) pe_int (nomark _)) (pss_one (ps_ret pe_str)) pss_nil)
    (pss_one (ps_ret (pixS (pv 0) (pe_op op_sub (pv 1) pe_int))))), ?_⟩
  refine ⟨_, rfl, rfl, _, rfl, ?_⟩
  refine ite2 (fun e => ?_) (fun e => ?_)
  · have e' : p = 0 := by have := int_eq e; omega
    subst e'
    exact q
  · have e' : p ≠ 0 := fun z => int_ne e (by rw [z]; rfl)
    obtain ⟨c, _, hc, hat⟩ := at_S (w := u) (i := (p : Int) - 1) (by omega) (by omega)
    refine ⟨_, rfl, _, rfl, _, _, rfl, rfl, S u, _, c, rfl, rfl, by rw [S_len]; exact sz (by omega), hat, ?_⟩
    have et : ((p : Int) - 1).toNat = p - 1 := by omega
    rw [et] at hc
    have el : ltS u p = [c] := by
      unfold ltS
      rw [if_neg e', List.getD_eq_getElem?_getD, hc]
      rfl
    rw [el] at q
    exact q
end
end W8

set_option Elab.async false
set_option linter.all false
set_option maxRecDepth 100000
set_option maxHeartbeats 4000000
namespace W8
open PySem L2 NK
abbrev sPlain : Stmt := top 14
theorem scPlain : FnScope ["word", "places", "order", "one", "other", "place"] ["word", "places"] (defScope sPlain) := ⟨rfl, rfl, rfl, by decide +kernel, rfl, by decide +kernel, by decide +kernel⟩
def natV (p : Nat) : V := .int (p : Int)
def spPlain (K : PySem.W.Frag) : Sp := fun vs H Q _ => ∃ (u ps : List Nat) (a : Addr), vs = [.str (S u), .ref a] ∧ SqT K H a (ps.map natV) ∧ (∀ p ∈ ps, p ≤ u.length) ∧ u.length ≤ 1000 ∧ ps.length ≤ 10 ∧
  ∀ b H', Same H H' → KeyAt H' (plainK u ps) b → Q (.ref b) H'
theorem seqT {K : PySem.W.Frag} {H H' : Hp} {a : Addr} {xs : List V} (e : Same H H') (h : SqT K H a xs) : SqT K H' a xs := by
  rcases h with (h | ⟨o, h⟩) | h
  · exact .inl (.inl (e _ _ h))
  · exact .inl (.inr ⟨o, e _ _ h⟩)
  · exact .inr h
theorem same_upd {H H' : Hp} {D : Addr} {o : HO} (s : Same H H') (n : H D = none) : Same H (upd H' D o) := fun b u e => by
  rw [upd_ne (ne_of_none e n)]
  exact s b u e
theorem get_map {α : Type} {g : α → V} {xs : List α} {i : Nat} {x : V} (h : (xs.map g)[i]? = some x) : ∃ z, xs[i]? = some z ∧ x = g z ∧ z ∈ xs := by
  rw [List.getElem?_map] at h
  obtain ⟨z, hz, e⟩ := Option.map_eq_some_iff.mp h
  exact ⟨z, hz, e.symm, List.mem_of_getElem? hz⟩
theorem flat_take {α β : Type} (g : α → List β) {xs : List α} {i : Nat} {x : α} (h : xs[i]? = some x) : (xs.take (i + 1)).flatMap g = (xs.take i).flatMap g ++ g x := by
  rw [List.take_add_one, h, List.flatMap_append]
  simp
theorem cmp_val (x y : Nat) : V.int ((if decide ((y : Int) < (x : Int)) = true then 1 else 0) - (if decide ((x : Int) < (y : Int)) = true then 1 else 0)) = V.int (cmpI x y) := by
  unfold cmpI
  simp only [decide_eq_true_eq, Int.ofNat_lt]
theorem take_map {α β : Type} (g : α → β) {xs : List α} {i : Nat} {x : α} (h : xs[i]? = some x) : (xs.take (i + 1)).map g = (xs.take i).map g ++ [g x] := by
  rw [List.take_add_one, h, List.map_append]
  rfl
theorem ordTake_len (ps : List Nat) (i : Nat) : ((ps.take i).flatMap fun x => ps.map fun y => cmpI x y).length ≤ ps.length * ps.length := by
  have e : ∀ l : List Nat, (l.flatMap fun x => ps.map fun y => cmpI x y).length = l.length * ps.length := by
    intro l
    induction l with
    | nil => simp
    | cons x r ih => rw [List.flatMap_cons, List.length_append, ih, List.length_map, List.length_cons, Nat.succ_mul, Nat.add_comm]
  rw [e, List.length_take]
  exact Nat.mul_le_mul_right _ (Nat.min_le_right _ _)
section
variable {P : Program} {w : World} {K : PySem.W.Frag} {mg : Str → Option Value} {base : Heap}
theorem ok_plain {f : Addr} {fd : FuncData} (F : Fun K "plain_kind" "plain_kind" sPlain f fd) (tt : mg "tuple" = none) (ti : mg "int" = none) (cletter_at : Cal P w K mg base "letter_at" 1 ["word", "place"] spLetter_at) : FnOk P w K mg base CX0 2 f fd ["word", "places"] (spPlain K) := by
  refine F.ok scPlain (fun vs H Q E h => ?_) (fun cdv A outer s H vs Q E hr h => ?_)
  · obtain ⟨u, ps, a, rfl, _⟩ := h
    rfl
  obtain ⟨u, ps, a, rfl, st, hle, hu, hps, q⟩ := h
  refine ⟨_, (pss_cons (ps_set (i := 2) scPlain.nd rfl (Or.inl rfl) (pT1 call_tuple_of tt (pe_lc2 (wi1 := iTup K (tVar 1)) (own := [("one", 3), ("other", 4)]) (vs1 := [4]) (g := gName 3) (tt := tYes) rfl scPlain.nd (pi_tup (pv 1)) (blkOk_by (own := [("one", 3), ("other", 4)]) (N := ["word", "places", "order", "one", "other", "place"]) (sc := defScope sPlain) (by decide +kernel)) (by decide)
      (fun _ _ _ _ _ => (pg_name (i := 3) scPlain.nd rfl (Or.inl rfl))) (fun _ _ _ _ _ => pts_nil) (fun _ _ _ _ _ => (pi_tup (pv 1))) (fun _ _ _ _ _ => (pg_name (i := 4) scPlain.nd rfl (Or.inl rfl))) (fun _ _ _ _ _ => pts_nil)
      (fun _ _ _ _ _ => (pe_op op_sub (pT1 call_int1 ti (pe_cmpR op_gt (pv 3) (pv 4) (nomark _))) (pT1 call_int1 ti (pe_cmpR op_lt (pv 3) (pv 4) (nomark _))))))))
    (pss_one (ps_ret (pe_tup (pa_cons (pT1 call_tuple_of tt (pe_lc (own := [("place", 5)]) (g := gName 5) (tt := tYes) rfl scPlain.nd (pi_tup (pv 1)) (blkOk_by (own := [("place", 5)]) (N := ["word", "places", "order", "one", "other", "place"]) (sc := defScope sPlain) (by decide +kernel))
      (fun _ _ _ _ _ => (pg_name (i := 5) scPlain.nd rfl (Or.inl rfl))) (fun _ _ _ _ _ => pts_nil) (fun _ _ _ _ _ => (pcall cletter_at hr (pa_cons (pv 0) (pa_cons (pv 5) pa_nil)))))) (pa_cons (pv 2) pa_nil)))))), ?_⟩
  -- order
  have hlen : (ps.map natV).length = ps.length := List.length_map _
  refine ⟨_, rfl, a, rfl, ⟨_, st⟩, fun D hD => ?_⟩
  refine walk_t (xs := ps.map natV) (fun i H' => Same H H' ∧ H' D = some (.lst (((ps.take i).flatMap fun x => ps.map fun y => cmpI x y).map V.int))) ⟨same_new hD _, upd_same⟩ (fun i H' ⟨s1, _⟩ => seqT s1 st) ?_ ?_
  · rintro i x H1 hx ⟨s1, hD1⟩
    obtain ⟨x, hxi, rfl, hxm⟩ := get_map hx
    refine ⟨rfl, yes ?_⟩
    refine ⟨_, rfl, a, rfl, ⟨_, seqT s1 st⟩, ?_⟩
    refine walk_t (xs := ps.map natV) (fun j H' => Same H H' ∧ H' D = some (.lst ((((ps.take i).flatMap fun x => ps.map fun y => cmpI x y) ++ (ps.take j).map fun y => cmpI x y).map V.int))) ⟨s1, by rw [hD1]; simp⟩ (fun i H' ⟨s1, _⟩ => seqT s1 st) ?_ ?_
    · rintro j y H2 hy ⟨s2, hD2⟩
      obtain ⟨y, hyj, rfl, hym⟩ := get_map hy
      refine ⟨rfl, yes ?_⟩
      refine ⟨_, rfl, _, rfl, _, _, rfl, rfl, .inr ⟨_, rfl, _, rfl, _, rfl, _, _, rfl, rfl, .inr ⟨_, rfl, _, _, rfl, rfl, ?_⟩⟩⟩
      refine ⟨_, hD2, small_lt ?_, same_upd s2 hD, ?_⟩
      · have e1 := ordTake_len ps i
        have e2 : ((ps.take j).map fun y => cmpI x y).length ≤ ps.length := by rw [List.length_map, List.length_take]; omega
        rw [List.length_map, List.length_append]
        have : ps.length * ps.length ≤ 10 * 10 := Nat.mul_le_mul hps hps
        omega
      · rw [upd_same, take_map _ hyj, ← List.append_assoc]
        rw [List.map_append (l₂ := [cmpI x y])]
        exact congrArg (fun z => some (HO.lst (_ ++ [z]))) (cmp_val x y)
    · rintro H2 ⟨s2, hD2⟩
      refine ⟨s2, ?_⟩
      rw [hD2, flat_take _ hxi, hlen, List.take_length]
  · rintro H1 ⟨s1, hD1⟩
    rw [hlen, List.take_length] at hD1
    refine ⟨_, _, rfl, .inl ⟨SqL.of hD1, fun o ho => ?_⟩⟩
    have s2 : Same H (upd H1 o (.tup ((ordOf ps).map V.int))) := same_upd s1 (s1.free ho)
    have ho2 : (upd H1 o (.tup ((ordOf ps).map V.int))) o = some (.tup ((ordOf ps).map V.int)) := upd_same
    refine ⟨_, rfl, a, rfl, ⟨_, seqT s2 st⟩, fun D2 hD2 => ?_⟩
    refine walk_t (xs := ps.map natV) (fun i H' => Same (upd H1 o (.tup ((ordOf ps).map V.int))) H' ∧ H' D2 = some (.lst ((letsOf u (ps.take i)).map V.str))) ⟨same_new hD2 _, upd_same⟩ (fun i H' ⟨s3, _⟩ => seqT (s2.trans s3) st) ?_ ?_
    · rintro i x H3 hx ⟨s3, hD3⟩
      obtain ⟨x, hxi, rfl, hxm⟩ := get_map hx
      refine ⟨rfl, yes ?_⟩
      refine ⟨_, rfl, _, rfl, u, x, rfl, hle x hxm, hu, ?_⟩
      refine ⟨_, hD3, small_lt ?_, same_upd s3 hD2, ?_⟩
      · unfold letsOf
        rw [List.length_map, List.length_map, List.length_take]
        omega
      · rw [upd_same]
        unfold letsOf
        rw [take_map _ hxi, List.map_append]
        rfl
    · rintro H3 ⟨s3, hD3⟩
      rw [hlen, List.take_length] at hD3
      refine ⟨_, _, rfl, .inl ⟨SqL.of hD3, fun l hl => ?_⟩⟩
      refine ⟨_, rfl, by show 2 ≤ sizeLine; decide, fun t ht => ?_⟩
      have s4 : Same H3 (upd H3 l (.tup ((letsOf u ps).map V.str))) := same_new hl _
      refine q t _ ((s2.trans s3).trans (s4.trans (same_new ht _))) ⟨[.ref l, .ref o], upd_same, .cons ?_ (.cons ?_ .nil)⟩
      · refine ⟨l, rfl, ?_⟩
        rw [same_new ht _ _ _ upd_same, List.map_map]
        rfl
      · refine ⟨o, rfl, ?_⟩
        rw [same_new ht _ _ _ (s4 _ _ (s3 _ _ ho2)), List.map_map]
        rfl
end
end W8

set_option Elab.async false
set_option linter.all false
set_option maxRecDepth 100000
set_option maxHeartbeats 4000000
namespace W8
open PySem L2 NK
def setK (r : Nat) (ns : List Int) : List Itm := [.inl (.inl (r : Int)), .inr (ns.map Sum.inl)]
/-- n is the number of what r rounds tell of u with the places ps, by the list of keys -/
def Num (D : List (List Itm)) : Nat → List Nat → List Nat → Nat → Prop
  | 0, u, ps, n => D[n]? = some (plainK u ps)
  | r + 1, u, ps, n => ∃ (ks : List Nat) (ns : List Int), ks.length = u.length + 1 ∧ (∀ a k, ks[a]? = some k → Num D r u (ps ++ [a]) k) ∧ ns.Pairwise (· < ·) ∧ (∀ z : Int, z ∈ ns ↔ z ∈ ks.map (fun k : Nat => (k : Int))) ∧ D[n]? = some (setK (r + 1) ns)
theorem get_prefix {α : Type} {D D' : List α} (h : ∃ t, D' = D ++ t) {n : Nat} {x : α} (e : D[n]? = some x) : D'[n]? = some x := by
  obtain ⟨t, rfl⟩ := h
  rw [List.getElem?_append_left (List.getElem?_eq_some_iff.mp e).1]
  exact e
theorem Num.mono {D D' : List (List Itm)} (h : ∃ t, D' = D ++ t) : ∀ {r : Nat} {u ps : List Nat} {n : Nat}, Num D r u ps n → Num D' r u ps n
  | 0, _, _, _, e => get_prefix h e
  | r + 1, _, _, _, ⟨ks, ns, h1, h2, h3, h4, h5⟩ => ⟨ks, ns, h1, fun a k hk => Num.mono h (h2 a k hk), h3, h4, get_prefix h h5⟩
/-- the dict at d numbers the keys D -/
def NumD (P : Program) (w : World) (H : Hp) (d : Addr) (D : List (List Itm)) : Prop :=
  ∃ kvs : KVs, H d = some (ND P w d kvs) ∧ Keyed H kvs ∧ kvs.map (·.1) = D ∧ (∀ (i : Nat) p, kvs[i]? = some p → p.2.2 = .int (i : Int)) ∧ D.Nodup
def cost : Nat → Nat → Nat
  | 0, _ => 1
  | r + 1, n => 1 + (n + 1) * cost r n
theorem NumD.mono {P : Program} {w : World} {H H' : Hp} {d : Addr} {D : List (List Itm)} (s : Same H H') (h : NumD P w H d D) : NumD P w H' d D := by
  obtain ⟨kvs, h1, h2, h3, h4, h5⟩ := h
  exact ⟨kvs, s _ _ h1, h2.mono s, h3, h4, h5⟩
theorem valN_at {kvs : KVs} (nd : (kvs.map (·.1)).Nodup) {i : Nat} {p : List Itm × Addr × V} (h : kvs[i]? = some p) : valN kvs p.1 = some p.2.2 := by
  unfold valN
  induction kvs generalizing i with
  | nil => cases h
  | cons q r ih =>
    rw [List.map_cons, List.nodup_cons] at nd
    rw [List.find?_cons]
    cases i with
    | zero =>
      have e : q = p := by simpa using h
      subst e
      rw [decide_eq_true rfl]
      rfl
    | succ i =>
      have h' : r[i]? = some p := by simpa using h
      have hne : ¬ q.1 = p.1 := fun e => nd.1 (by rw [e]; exact List.mem_map_of_mem (List.mem_of_getElem? h'))
      rw [decide_eq_false hne]
      exact ih nd.2 h'
theorem valN_none {kvs : KVs} {k : List Itm} (h : k ∉ kvs.map (·.1)) : valN kvs k = none := by
  unfold valN
  rw [Option.map_eq_none_iff, List.find?_eq_none]
  intro p hp e
  exact h (by rw [← of_decide_eq_true e]; exact List.mem_map_of_mem hp)
/-- if key not in numbers: numbers[key] = len(numbers); return numbers[key] -/
theorem num_tail {P : Program} {w : World} {H : Hp} {d b : Addr} {D : List (List Itm)} {key : List Itm} {σ : L2.St} {Q : VK} {nx : L2.St → Hp → Prop} {hK : σ[3]? = some (some (.ref d))} {hk : σ[4]? = some (some (.ref b))} (hN : NumD P w H d D) (hb : KeyAt H key b) (hl : D.length + 1 ≤ 1000000)
    (q : ∀ (n : Nat) D' H', But d H H' → NumD P w H' d D' → (∃ t, D' = D ++ t) → D'.length ≤ D.length + 1 → D'[n]? = some key → Q (.int (n : Int)) H') :
    tSeq (tIfS (tB (tNNotIn P w (tVar 4) (tVar 3))) (sNPut P w (tVar 3) (tVar 4) (tCB (fun xs H Q => ∃ a kvs, xs = [V.ref a] ∧ H a = some (ND P w a kvs) ∧ Keyed H kvs ∧ Q (.int kvs.length) H) (tCons (tVar 3) tNil))) tNext) (tRet (tNGet P w (tVar 3) (tVar 4))) { nx := nx, rt := Q } σ H := by
  obtain ⟨kvs, h1, h2, h3, h4, h5⟩ := hN
  have hlen : kvs.length = D.length := by rw [← h3, List.length_map]
  refine ⟨_, hk, _, hK, d, kvs, key, b, rfl, rfl, h1, h2, hb, _, rfl, ?_⟩
  by_cases hm : key ∈ D
  · obtain ⟨i, hi⟩ := List.getElem?_of_mem hm
    have hi2 := hi
    rw [← h3, List.getElem?_map] at hi2
    obtain ⟨p, hp, ep⟩ := Option.map_eq_some_iff.mp hi2
    have hv : valN kvs key = some (.int (i : Int)) := by
      rw [← ep, valN_at (by rw [h3]; exact h5) hp, h4 i p hp]
    rw [hv]
    refine ⟨_, hK, _, hk, d, kvs, key, b, _, rfl, rfl, h1, h2, hb, hv, ?_⟩
    exact q i D H (But.refl _ _) ⟨kvs, h1, h2, h3, h4, h5⟩ ⟨[], by rw [List.append_nil]⟩ (by omega) hi
  · have hv : valN kvs key = none := valN_none (by rw [h3]; exact hm)
    rw [hv]
    refine ⟨_, hK, d, kvs, rfl, h1, h2, _, hK, _, hk, d, kvs, key, b, rfl, rfl, h1, h2, hb, Nat.lt_of_lt_of_le (show kvs.length < 1000000 by omega) (by decide), ?_⟩
    have hp : putN kvs key b (.int (kvs.length : Int)) = kvs ++ [(key, b, .int (kvs.length : Int))] := by
      unfold putN
      rw [hv]
      rfl
    rw [hp]
    have hnt : ∀ vs, H d ≠ some (.tup vs) := fun vs e => by rw [h1] at e; cases e
    have h2' : Keyed (upd H d (ND P w d (kvs ++ [(key, b, .int (kvs.length : Int))]))) (kvs ++ [(key, b, .int (kvs.length : Int))]) := by
      intro p hp
      rcases List.mem_append.mp hp with e | e
      · exact (h2 p e).but hnt (fun c o n e => by rw [upd_ne n]; exact e)
      · rw [List.mem_singleton.mp e]
        exact hb.but hnt (fun c o n e => by rw [upd_ne n]; exact e)
    have nd' : ((kvs ++ [(key, b, V.int (kvs.length : Int))]).map (·.1)) = D ++ [key] := by rw [List.map_append, h3]; rfl
    have nd2 : (D ++ [key]).Nodup := by
      rw [List.nodup_append]
      exact ⟨h5, List.nodup_cons.mpr ⟨by simp, List.nodup_nil⟩, fun x hx y hy e => hm (by rw [← List.mem_singleton.mp hy, ← e]; exact hx)⟩
    have hat : (kvs ++ [(key, b, V.int (kvs.length : Int))])[kvs.length]? = some (key, b, V.int (kvs.length : Int)) := by rw [List.getElem?_append_right (Nat.le_refl _)]; simp
    have hv2 : valN (kvs ++ [(key, b, .int (kvs.length : Int))]) key = some (.int (kvs.length : Int)) := valN_at (p := (key, b, .int (kvs.length : Int))) (by rw [nd']; exact nd2) hat
    refine ⟨_, hK, _, hk, d, _, key, b, _, rfl, rfl, upd_same, h2', hb.but hnt (fun c o n e => by rw [upd_ne n]; exact e), hv2, ?_⟩
    refine q kvs.length (D ++ [key]) _ But.upd ⟨_, upd_same, h2', nd', fun i p hp => ?_, nd2⟩ ⟨_, rfl⟩ (by rw [List.length_append] <;> exact Nat.le_refl _) (by rw [hlen, List.getElem?_append_right (Nat.le_refl _)]; simp)
    by_cases hi : i < kvs.length
    · rw [List.getElem?_append_left hi] at hp
      exact h4 i p hp
    · have hi2 := (List.getElem?_eq_some_iff.mp hp).1
      rw [List.length_append] at hi2
      have ei : i = kvs.length := by
        have : [(key, b, V.int (kvs.length : Int))].length = 1 := rfl
        omega
      subst ei
      rw [hat] at hp
      cases hp
      rfl
end W8

set_option Elab.async false
set_option linter.all false
set_option maxRecDepth 100000
set_option maxHeartbeats 4000000
namespace W8
open PySem L2 NK
abbrev sKindN : Stmt := top 15
theorem scKindN : FnScope ["word", "places", "rounds", "numbers", "key", "further", "at"] ["word", "places", "rounds", "numbers"] (defScope sKindN) := ⟨rfl, rfl, rfl, by decide +kernel, rfl, by decide +kernel, by decide +kernel⟩
def spKindN (P : Program) (w : World) (K : PySem.W.Frag) (r : Nat) : Sp := fun vs H Q _ => ∃ (u ps : List Nat) (a d : Addr) (D : List (List Itm)), vs = [.str (S u), .ref a, .int (r : Int), .ref d] ∧ SqT K H a (ps.map natV) ∧ (∀ p ∈ ps, p ≤ u.length) ∧ u.length ≤ 60 ∧ ps.length + r ≤ 10 ∧
  NumD P w H d D ∧ D.length + cost r u.length ≤ 1000000 ∧
  ∀ (n : Nat) D' H', But d H H' → NumD P w H' d D' → (∃ t, D' = D ++ t) → D'.length ≤ D.length + cost r u.length → Num D' r u ps n → Q (.int (n : Int)) H'
theorem catA1 {K : PySem.W.Frag} {H : Hp} {a t : Addr} {xs : List V} {y : V} {Q : VK} (ha : SqT K H a xs) (ht : H t = some (.tup [y])) (hn : xs.length ≤ 1000) (q : ∀ b H', Same H H' → SqT K H' b (xs ++ [y]) → Q (.ref b) H') : rCatA K (.ref a) (.ref t) H Q := by
  refine ⟨a, t, xs, [y], rfl, rfl, ha, SqT.of ht, sz (by show xs.length + 1 ≤ 100000; omega), fun e => ?_, fun _ e => (nomatch e), fun _ _ p hp => ?_⟩
  · subst e
    exact q t H (Same.refl H) (SqT.of ht)
  · exact q p _ (same_new hp _) (SqT.of upd_same)
theorem But.seqT {K : PySem.W.Frag} {d a : Addr} {H H' : Hp} {xs : List V} (b : But d H H') (hd : ∀ o, H d = some o → ∃ φ, o = .ext φ) (h : SqT K H a xs) : SqT K H' a xs := by
  rcases h with (h | ⟨o, h⟩) | h
  · exact .inl (.inl (b _ _ (fun e => by subst e; obtain ⟨φ, e⟩ := hd _ h; cases e) h))
  · exact .inl (.inr ⟨o, b _ _ (fun e => by subst e; obtain ⟨φ, e⟩ := hd _ h; cases e) h⟩)
  · exact .inr h
theorem NumD.ext {P : Program} {w : World} {H : Hp} {d : Addr} {D : List (List Itm)} (h : NumD P w H d D) : ∀ o, H d = some o → ∃ φ, o = .ext φ := fun o e => by
  obtain ⟨kvs, h1, _⟩ := h
  rw [h1] at e
  cases e
  exact ⟨_, rfl⟩
section
variable {P : Program} {w : World} {K : PySem.W.Frag} {mg : Str → Option Value} {base : Heap}
theorem ok_kind0 {f : Addr} {fd : FuncData} (F : Fun K "kind_number" "kind_number" sKindN f fd) (tl : mg "len" = none) (cplain_kind : Cal P w K mg base "plain_kind" 2 ["word", "places"] (spPlain K)) :
    FnOk P w K mg base CX0 3 f fd ["word", "places", "rounds", "numbers"] (spKindN P w K 0) := by
  refine F.ok scKindN (fun vs H Q E h => ?_) (fun cdv A outer s H vs Q E hr h => ?_)
  · obtain ⟨u, ps, a, d, D, rfl, _⟩ := h
    rfl
  obtain ⟨u, ps, a, d, D, rfl, st, hle, hu, hps, hN, hD, q⟩ := h
  have hu16 := hr.units
  refine ⟨_, (pss_cons (ps_if (pt_cmpR op_eq (pv 2) pe_int (nomark _))
      (pss_one (ps_set (i := 4) scKindN.nd rfl (Or.inl rfl) (pcall cplain_kind hr (pa_cons (pv 0) (pa_cons (pv 1) pa_nil)))))
      pss_never)
    (pss_cons (ps_if (pt_cmp (NK.pc_nnotin (Nat.lt_of_le_of_lt (Nat.add_le_add_left (by decide : 16 ≤ 64) _) hu16) (pv 4) (pv 3)) rfl)
      (pss_one (NK.ps_nput (Nat.lt_of_le_of_lt (Nat.add_le_add_left (by decide : 16 ≤ 64) _) hu16) (pv 3) (pv 4) (pB1 NK.call_lenN tl (pv 3)) rfl))
      pss_nil)
    (pss_one (ps_ret (NK.pe_nget (Nat.lt_of_le_of_lt (Nat.add_le_add_left (by decide : 16 ≤ 64) _) hu16) (pv 3) (pv 4) (fun _ _ => rfl)))))), ?_⟩
  refine ⟨_, rfl, rfl, _, rfl, ?_⟩
  refine ite2 (fun e => ?_) (fun e => absurd rfl e)
  refine ⟨_, rfl, _, rfl, u, ps, a, rfl, st, hle, by omega, by omega, fun b H1 s1 hb => ?_⟩
  refine num_tail (hK := rfl) (hk := rfl) (hN.mono s1) hb hD fun n D' H2 b2 hN2 pre len hn => ?_
  exact q n D' H2 ((But.of s1).trans b2) hN2 pre len hn
theorem ok_kindS {r : Nat} (hr10 : r ≤ 10) {f : Addr} {fd : FuncData} (F : Fun K "kind_number" "kind_number" sKindN f fd) (tl : mg "len" = none) (tr : mg "range" = none) (tt : mg "tuple" = none) (tse : mg "set" = none) (tso : mg "sorted" = none) (ckind_number : Cal P w K mg base "kind_number" (3 + r) ["word", "places", "rounds", "numbers"] (spKindN P w K r)) :
    FnOk P w K mg base CX0 (3 + r + 1) f fd ["word", "places", "rounds", "numbers"] (spKindN P w K (r + 1)) := by
  refine F.ok scKindN (fun vs H Q E h => ?_) (fun cdv A outer s H vs Q E hr h => ?_)
  · obtain ⟨u, ps, a, d, D, rfl, _⟩ := h
    rfl
  obtain ⟨u, ps, a, d, D, rfl, st, hle, hu, hps, hN, hD, q⟩ := h
  have hu16 := hr.units
  refine ⟨_, (pss_cons (ps_if (pt_cmpR op_eq (pv 2) pe_int (nomark _))
      pss_never
      (pss_cons (ps_setLc (i := 5) (own := [("at", 6)]) (g := gName 6) (tt := tYes) rfl scKindN.nd rfl rfl (sw_true rfl rfl rfl (by decide +kernel)) (pi_range1 (by rfl) tr (pa_cons (pe_op op_add (pB1 call_len_str tl (pv 0)) pe_int) pa_nil))
        (blkOk_by (own := [("at", 6)]) (N := ["word", "places", "rounds", "numbers", "key", "further", "at"]) (sc := defScope sKindN) (by decide +kernel)) (fun _ _ _ _ _ => (pg_name (i := 6) scKindN.nd rfl (Or.inl rfl))) (fun _ _ _ _ _ => pts_nil)
        (fun _ _ _ _ _ => (pcall ckind_number hr (pa_cons (pv 0) (pa_cons (pe_op (r := rCatA K) op_catA (pv 1) (pe_tup (pa_cons (pv 6) pa_nil))) (pa_cons (pe_op op_sub (pv 2) pe_int) (pa_cons (pv 3) pa_nil)))) (hk := Nat.le_refl _))))
      (pss_one (ps_set (i := 4) scKindN.nd rfl (Or.inl rfl) (pe_tup (pa_cons (pv 2) (pa_cons (pT1 call_tuple_of tt (pB1 (cr_sortedSet rfl) tso (pT1 (cr_setL rfl) tse (pv 5)))) pa_nil)))))))
    (pss_cons (ps_if (pt_cmp (NK.pc_nnotin (Nat.lt_of_le_of_lt (Nat.add_le_add_left (by decide : 16 ≤ 64) _) hu16) (pv 4) (pv 3)) rfl)
      (pss_one (NK.ps_nput (Nat.lt_of_le_of_lt (Nat.add_le_add_left (by decide : 16 ≤ 64) _) hu16) (pv 3) (pv 4) (pB1 NK.call_lenN tl (pv 3)) rfl))
      pss_nil)
    (pss_one (ps_ret (NK.pe_nget (Nat.lt_of_le_of_lt (Nat.add_le_add_left (by decide : 16 ≤ 64) _) hu16) (pv 3) (pv 4) (fun _ _ => rfl)))))), ?_⟩
  refine ⟨_, rfl, rfl, _, rfl, ?_⟩
  refine ite2 (fun e => absurd (int_eq e) (by omega)) (fun _ => ?_)
  -- further
  refine ⟨_, rfl, _, rfl, by rw [S_len]; exact sz (by omega), _, _, rfl, rfl, _, rfl, by rw [S_len]; omega, by rw [S_len]; omega, fun L hL => ?_⟩
  have en : (((S u).length : Int) + 1).toNat = u.length + 1 := by rw [S_len]; omega
  rw [en]
  have hc : cost (r + 1) u.length = 1 + (u.length + 1) * cost r u.length := rfl
  have er : ((r + 1 : Nat) : Int) - 1 = (r : Int) := by omega
  have dL : d ≠ L := by
    obtain ⟨kvs, h1, _⟩ := hN
    exact ne_of_none h1 hL
  refine walk_r (fun i H' => ∃ (ks : List Nat) (Di : List (List Itm)), ks.length = i ∧ But d H H' ∧ H' L = some (.lst (ks.map natV)) ∧ NumD P w H' d Di ∧ (∃ t, Di = D ++ t) ∧ Di.length ≤ D.length + i * cost r u.length ∧ ∀ a k, ks[a]? = some k → Num Di r u (ps ++ [a]) k)
    ⟨[], D, rfl, But.of (same_new hL _), upd_same, hN.mono (same_new hL _), ⟨[], by simp⟩, by omega, fun a k e => by cases e⟩ ?_ ?_
  · rintro i H1 hi ⟨ks, Di, hk, b1, hL1, hN1, pre, hDi, hnum⟩
    refine ⟨rfl, yes ?_⟩
    refine ⟨_, rfl, _, rfl, _, rfl, by show 1 ≤ sizeLine; decide, fun t ht => ?_⟩
    have s2 := same_new ht (.tup [.int (0 + (i : Int))])
    refine catA1 (seqT s2 (b1.seqT hN.ext st)) upd_same (by rw [List.length_map]; omega) fun b H3 s3 hb => ?_
    have hi0 : V.int (0 + (i : Int)) = natV i := by unfold natV; rw [Int.zero_add]
    have hcc : (i + 1) * cost r u.length ≤ (u.length + 1) * cost r u.length := Nat.mul_le_mul_right _ (by omega)
    rw [Nat.succ_mul] at hcc
    refine ⟨_, rfl, _, _, rfl, rfl, _, rfl, u, ps ++ [i], b, d, Di, congrArg (fun z => [V.str (S u), V.ref b, V.int z, V.ref d]) er, by rw [List.map_append, List.map_singleton, ← hi0]; exact hb, fun p hp => ?_, hu, by rw [List.length_append, List.length_singleton]; omega, (hN1.mono s2).mono s3, by omega, fun n D' H4 b4 hN4 pre4 len4 hn4 => ?_⟩
    · rcases List.mem_append.mp hp with e | e
      · exact hle p e
      · rw [List.mem_singleton.mp e]
        omega
    have hL4 := b4 L _ (Ne.symm dL) (s3 _ _ (s2 _ _ hL1))
    have b5 : But d H H4 := b1.trans ((But.of (s2.trans s3)).trans b4)
    refine ⟨_, hL4, small_lt (by rw [List.length_map]; omega), ks ++ [n], D', by rw [List.length_append, List.length_singleton, hk], fun c o hc1 ho => ?_, ?_, ?_, ?_, by rw [Nat.succ_mul]; omega, fun a k hak => ?_⟩
    · rw [upd_ne (ne_of_none ho hL)]
      exact b5 c o hc1 ho
    · rw [upd_same, List.map_append]
      rfl
    · obtain ⟨kvs, h1, h2, h3, h4, h5⟩ := hN4
      refine ⟨kvs, by rw [upd_ne dL]; exact h1, h2.but (a := L) (fun vs e => by rw [hL4] at e; cases e) (fun c o hc2 ho => by rw [upd_ne hc2]; exact ho), h3, h4, h5⟩
    · obtain ⟨t1, e1⟩ := pre
      obtain ⟨t2, e2⟩ := pre4
      exact ⟨t1 ++ t2, by rw [e2, e1, List.append_assoc]⟩
    · by_cases ha : a < ks.length
      · rw [List.getElem?_append_left ha] at hak
        exact (hnum a k hak).mono pre4
      · have ha2 := (List.getElem?_eq_some_iff.mp hak).1
        rw [List.length_append, List.length_singleton] at ha2
        have ea : a = ks.length := by omega
        subst ea
        rw [List.getElem?_append_right (Nat.le_refl _)] at hak
        have e : n = k := by simpa using hak
        rw [← e, hk]
        exact hn4
  · rintro H1 ⟨ks, Di, hk, b1, hL1, hN1, pre, hDi, hnum⟩
    -- key
    refine ⟨_, rfl, _, rfl, L, ks.map (fun k : Nat => (k : Int)), rfl, SqL.of (by rw [hL1, List.map_map] <;> rfl), by rw [List.length_map]; omega, fun so c hso hcc => ?_⟩
    rw [List.length_map] at hcc
    refine ⟨so, _, c, rfl, upd_same, by omega, fun ns sl hpw hmem hlen hsl => ?_⟩
    refine ⟨sl, _, rfl, .inl ⟨SqL.of upd_same, fun t ht => ?_⟩⟩
    refine ⟨by show 2 ≤ sizeLine; decide, fun kt hkt => ?_⟩
    have s1 := same_new hso (SetO w so (fun j => decide (j ∈ ks.map (fun k : Nat => (k : Int)))) c)
    have s2 := same_new hsl (.lst (ns.map V.int))
    have s3 := same_new ht (.tup (ns.map V.int))
    have s4 := same_new hkt (.tup [.int ((r + 1 : Nat) : Int), .ref t])
    have sA := s1.trans (s2.trans (s3.trans s4))
    have hKA : KeyAt (upd (upd (upd (upd H1 so (SetO w so (fun j => decide (j ∈ ks.map (fun k : Nat => (k : Int)))) c)) sl (.lst (ns.map V.int))) t (.tup (ns.map V.int))) kt (.tup [.int ((r + 1 : Nat) : Int), .ref t])) (setK (r + 1) ns) kt :=
      ⟨_, upd_same, .cons rfl (.cons ⟨t, rfl, (s4 _ _ upd_same).trans (by rw [List.map_map]; rfl)⟩ .nil)⟩
    refine num_tail (hK := rfl) (hk := rfl) (hN1.mono sA) hKA (by omega) fun n D' H2 b2 hN2 pre2 len2 hn2 => ?_
    refine q n D' H2 (b1.trans ((But.of sA).trans b2)) hN2 ?_ (by omega) ⟨ks, ns, hk, fun a k hak => (hnum a k hak).mono pre2, hpw, fun z => ?_, hn2⟩
    · obtain ⟨t1, e1⟩ := pre
      obtain ⟨t2, e2⟩ := pre2
      exact ⟨t1 ++ t2, by rw [e2, e1, List.append_assoc]⟩
    · rw [hmem z, decide_eq_true_eq]
/-- each number of rounds, by induction -/
theorem ok_kind {f : Addr} {fd : FuncData} (F : Fun K "kind_number" "kind_number" sKindN f fd) (bF : Binds K fd ["word", "places", "rounds", "numbers"] []) (mF : mg "kind_number" = some (.ref f)) (tl : mg "len" = none) (tr : mg "range" = none) (tt : mg "tuple" = none) (tse : mg "set" = none) (tso : mg "sorted" = none)
    (cplain_kind : Cal P w K mg base "plain_kind" 2 ["word", "places"] (spPlain K)) : ∀ r : Nat, r ≤ 10 → Cal P w K mg base "kind_number" (3 + r) ["word", "places", "rounds", "numbers"] (spKindN P w K r)
  | 0, _ => ⟨f, fd, ok_kind0 F tl cplain_kind, mF, F.kp, bF⟩
  | r + 1, h => ⟨f, fd, ok_kindS (by omega) F tl tr tt tse tso (ok_kind F bF mF tl tr tt tse tso cplain_kind r (by omega)), mF, F.kp, bF⟩
end
end W8

set_option Elab.async false
set_option linter.all false
set_option maxRecDepth 100000
set_option maxHeartbeats 4000000
namespace W8
open PySem L2 NK GM
theorem ltS_lt {u : List Nat} {p : Nat} (h : p ≤ u.length) : ltS u p = (GM.lt u p).toList := by
  unfold ltS GM.lt
  by_cases e : p = 0
  · rw [if_pos e, if_pos e]; rfl
  · rw [if_neg e, if_neg e, List.getD_eq_getElem?_getD, List.getElem?_eq_getElem (by omega)]
    rfl
theorem toList_inj {a b : Option Nat} (h : a.toList = b.toList) : a = b := by
  cases a <;> cases b <;> simp_all
theorem cmpI_iff (a b c d : Nat) : cmpI a b = cmpI c d ↔ ((a < b ↔ c < d) ∧ (a = b ↔ c = d)) := by
  unfold cmpI
  constructor
  · intro h
    split at h <;> split at h <;> split at h <;> split at h <;> first | omega | (constructor <;> constructor <;> intro _ <;> omega)
  · rintro ⟨h1, h2⟩
    split <;> split <;> split <;> split <;> omega
theorem flatMap_inj {α β : Type} {f g : α → List β} : ∀ {Z : List α}, (∀ z ∈ Z, (f z).length = (g z).length) → (Z.flatMap f = Z.flatMap g ↔ ∀ z ∈ Z, f z = g z)
  | [], _ => by simp
  | z :: Z, h => by
    rw [List.flatMap_cons, List.flatMap_cons]
    constructor
    · intro e
      obtain ⟨e1, e2⟩ := List.append_inj e (h z List.mem_cons_self)
      have q := (flatMap_inj (f := f) (g := g) (fun y hy => h y (List.mem_cons_of_mem _ hy))).mp e2
      intro y hy
      rcases List.mem_cons.mp hy with e | e
      · rw [e]; exact e1
      · exact q y e
    · intro e
      rw [e z List.mem_cons_self, (flatMap_inj (f := f) (g := g) (fun y hy => h y (List.mem_cons_of_mem _ hy))).mpr fun y hy => e y (List.mem_cons_of_mem _ hy)]
theorem map_inr_inj {α β : Type} {f : List α} {g : List α} (h : f.map (Sum.inr : α → Sum β α) = g.map Sum.inr) : f = g := (List.map_inj_right (fun a b e => Sum.inr.inj e)).mp h
theorem map_inl_inj {α β : Type} {f : List α} {g : List α} (h : f.map (Sum.inl : α → Sum α β) = g.map Sum.inl) : f = g := (List.map_inj_right (fun a b e => Sum.inl.inj e)).mp h
theorem plain_iff {u v : List Nat} {Z : Prs} (b : Inb u.length v.length Z) : plainK u (Z.map (·.1)) = plainK v (Z.map (·.2)) ↔ Fit u v Z := by
  have e1 : letsOf u (Z.map (·.1)) = Z.map fun z => S (ltS u z.1) := by unfold letsOf; rw [List.map_map]; rfl
  have e2 : letsOf v (Z.map (·.2)) = Z.map fun z => S (ltS v z.2) := by unfold letsOf; rw [List.map_map]; rfl
  have o1 : ordOf (Z.map (·.1)) = Z.flatMap fun z => Z.map fun y => cmpI z.1 y.1 := by
    unfold ordOf
    rw [List.flatMap_map]
    congr 1
    funext z
    rw [List.map_map]
    rfl
  have o2 : ordOf (Z.map (·.2)) = Z.flatMap fun z => Z.map fun y => cmpI z.2 y.2 := by
    unfold ordOf
    rw [List.flatMap_map]
    congr 1
    funext z
    rw [List.map_map]
    rfl
  have L : letsOf u (Z.map (·.1)) = letsOf v (Z.map (·.2)) ↔ ∀ z ∈ Z, GM.lt u z.1 = GM.lt v z.2 := by
    rw [e1, e2, List.map_inj_left]
    constructor
    · intro h z hz
      have := S_inj (h z hz)
      rw [ltS_lt (b z hz).1, ltS_lt (b z hz).2] at this
      exact toList_inj this
    · intro h z hz
      rw [ltS_lt (b z hz).1, ltS_lt (b z hz).2, h z hz]
  have O : ordOf (Z.map (·.1)) = ordOf (Z.map (·.2)) ↔ ∀ z ∈ Z, ∀ y ∈ Z, (z.1 < y.1 ↔ z.2 < y.2) ∧ (z.1 = y.1 ↔ z.2 = y.2) := by
    rw [o1, o2, flatMap_inj (fun z _ => by rw [List.length_map, List.length_map])]
    constructor
    · intro h z hz y hy
      exact (cmpI_iff _ _ _ _).mp (List.map_inj_left.mp (h z hz) y hy)
    · intro h z hz
      exact List.map_inj_left.mpr fun y hy => (cmpI_iff _ _ _ _).mpr (h z hz y hy)
  constructor
  · intro h
    unfold plainK at h
    injection h with h1 h2
    injection h2 with h2 _
    have q1 := L.mp (map_inr_inj (Sum.inr.inj h1))
    have q2 := O.mp (map_inl_inj (Sum.inr.inj h2))
    exact fun z hz => ⟨q1 z hz, fun y hy => q2 z hz y hy⟩
  · intro h
    unfold plainK
    rw [L.mpr fun z hz => (h z hz).1, O.mpr fun z hz y hy => (h z hz).2 y hy]
theorem get_inj {α : Type} {D : List α} (nd : D.Nodup) {n m : Nat} {x y : α} (hn : D[n]? = some x) (hm : D[m]? = some y) : n = m ↔ x = y := by
  constructor
  · intro e
    subst e
    rw [hn] at hm
    exact Option.some.inj hm
  · intro e
    subst e
    obtain ⟨h1, e1⟩ := List.getElem?_eq_some_iff.mp hn
    obtain ⟨h2, e2⟩ := List.getElem?_eq_some_iff.mp hm
    exact (List.getElem_inj nd).mp (e1.trans e2.symm)
theorem sorted_ext : ∀ {a b : List Int}, a.Pairwise (· < ·) → b.Pairwise (· < ·) → (∀ z, z ∈ a ↔ z ∈ b) → a = b
  | [], [], _, _, _ => rfl
  | [], y :: _, _, _, h => absurd ((h y).mpr List.mem_cons_self) (by simp)
  | x :: _, [], _, _, h => absurd ((h x).mp List.mem_cons_self) (by simp)
  | x :: a, y :: b, ha, hb, h => by
    rw [List.pairwise_cons] at ha hb
    have e : x = y := by
      have h1 := (h x).mp List.mem_cons_self
      have h2 := (h y).mpr List.mem_cons_self
      rcases List.mem_cons.mp h1 with e | e
      · exact e
      · rcases List.mem_cons.mp h2 with f | f
        · exact f.symm
        · have := hb.1 x e
          have := ha.1 y f
          omega
    subst e
    rw [sorted_ext ha.2 hb.2 fun z => ?_]
    have hz := h z
    constructor
    · intro q
      rcases List.mem_cons.mp (hz.mp (List.mem_cons_of_mem _ q)) with e | e
      · have := ha.1 z q
        omega
      · exact e
    · intro q
      rcases List.mem_cons.mp (hz.mpr (List.mem_cons_of_mem _ q)) with e | e
      · have := hb.1 z q
        omega
      · exact e
theorem mem_cast {z : Nat} {ks : List Nat} : (z : Int) ∈ ks.map (fun k : Nat => (k : Int)) ↔ z ∈ ks := by
  constructor
  · intro h
    obtain ⟨x, hx, e⟩ := List.mem_map.mp h
    have : x = z := by omega
    exact this ▸ hx
  · exact fun h => List.mem_map_of_mem h
theorem win_snoc (r : Nat) (u v : List Nat) (Z : Prs) (z : Nat × Nat) : Win r u v (Z ++ [z]) ↔ Win r u v (z :: Z) :=
  ⟨fun h => Win.sub h fun x hx => by rcases List.mem_cons.mp hx with e | e <;> simp [e], fun h => Win.sub h fun x hx => by rcases List.mem_append.mp hx with e | e <;> simp_all⟩
theorem num_iff {D : List (List Itm)} (nd : D.Nodup) : ∀ {r : Nat} {u v : List Nat} {Z : Prs} {n m : Nat}, Inb u.length v.length Z → Num D r u (Z.map (·.1)) n → Num D r v (Z.map (·.2)) m → (n = m ↔ Win r u v Z)
  | 0, u, v, Z, n, m, b, hn, hm => (get_inj nd hn hm).trans (plain_iff b)
  | r + 1, u, v, Z, n, m, b, ⟨ks, ns, k1, k2, k3, k4, k5⟩, ⟨js, ms, j1, j2, j3, j4, j5⟩ => by
    have key : ∀ a c k j, ks[a]? = some k → js[c]? = some j → (k = j ↔ Win r u v ((a, c) :: Z)) := fun a c k j hk hj => by
      have ha := (List.getElem?_eq_some_iff.mp hk).1
      have hc := (List.getElem?_eq_some_iff.mp hj).1
      have q := num_iff nd (r := r) (u := u) (v := v) (Z := Z ++ [(a, c)]) (n := k) (m := j) (fun x hx => by
        rcases List.mem_append.mp hx with e | e
        · exact b x e
        · rw [List.mem_singleton.mp e]
          exact ⟨by dsimp only; omega, by dsimp only; omega⟩) (by rw [List.map_append]; exact k2 a k hk) (by rw [List.map_append]; exact j2 c j hj)
      exact q.trans (win_snoc r u v Z (a, c))
    rw [get_inj nd k5 j5]
    have e1 : setK (r + 1) ns = setK (r + 1) ms ↔ ns = ms := ⟨fun h => by
      unfold setK at h
      injection h with _ h
      injection h with h _
      exact map_inl_inj (Sum.inr.inj h), fun h => by rw [h]⟩
    rw [e1]
    have e2 : ns = ms ↔ ∀ z : Nat, z ∈ ks ↔ z ∈ js := by
      constructor
      · intro h z
        have a := k4 z
        have c := j4 z
        rw [h] at a
        have q := a.symm.trans c
        rwa [mem_cast, mem_cast] at q
      · intro h
        refine sorted_ext k3 j3 fun z => (k4 z).trans (Iff.trans ?_ (j4 z).symm)
        constructor
        · intro q
          obtain ⟨x, hx, e⟩ := List.mem_map.mp q
          exact List.mem_map.mpr ⟨x, (h x).mp hx, e⟩
        · intro q
          obtain ⟨x, hx, e⟩ := List.mem_map.mp q
          exact List.mem_map.mpr ⟨x, (h x).mpr hx, e⟩
    rw [e2]
    constructor
    · intro h
      refine ⟨fun p hp => ?_, fun p hp => ?_⟩
      · have hk : ks[p]? = some (ks[p]'(by omega)) := List.getElem?_eq_getElem (by omega)
        obtain ⟨c, hc⟩ := List.getElem?_of_mem ((h _).mp (List.getElem_mem (by omega : p < ks.length)))
        have hc2 := (List.getElem?_eq_some_iff.mp hc).1
        exact ⟨c, by omega, (key p c _ _ hk hc).mp rfl⟩
      · have hj : js[p]? = some (js[p]'(by omega)) := List.getElem?_eq_getElem (by omega)
        obtain ⟨c, hc⟩ := List.getElem?_of_mem ((h _).mpr (List.getElem_mem (by omega : p < js.length)))
        have hc2 := (List.getElem?_eq_some_iff.mp hc).1
        exact ⟨c, by omega, (key c p _ _ hc hj).mp rfl⟩
    · rintro ⟨h1, h2⟩ z
      constructor
      · intro hz
        obtain ⟨p, hp⟩ := List.getElem?_of_mem hz
        have hp2 := (List.getElem?_eq_some_iff.mp hp).1
        obtain ⟨q, hq, hw⟩ := h1 p (by omega)
        have hj : js[q]? = some (js[q]'(by omega)) := List.getElem?_eq_getElem (by omega)
        rw [(key p q _ _ hp hj).mpr hw]
        exact List.getElem_mem _
      · intro hz
        obtain ⟨q, hq⟩ := List.getElem?_of_mem hz
        have hq2 := (List.getElem?_eq_some_iff.mp hq).1
        obtain ⟨p, hp, hw⟩ := h2 q (by omega)
        have hk : ks[p]? = some (ks[p]'(by omega)) := List.getElem?_eq_getElem (by omega)
        rw [← (key p q _ _ hk hq).mpr hw]
        exact List.getElem_mem _
end W8

set_option Elab.async false
set_option linter.all false
set_option maxRecDepth 100000
set_option maxHeartbeats 4000000
namespace W8
open PySem L2
structure AlphOk (al : List Nat) : Prop where
  n1 : 1 ≤ al.length
  n3 : al.length ≤ 3
  asc : al.Pairwise (· < ·)
  lo : ∀ c ∈ al, 97 ≤ c ∧ c ≤ 122
theorem mem_small {c : Nat} (h : 97 ≤ c ∧ c ≤ 122) : c ∈ small := by
  unfold small
  exact List.mem_map.mpr ⟨c - 97, List.mem_range.mpr (by omega), by omega⟩
abbrev sCheckL : Stmt := top 9
theorem scCheckL : FnScope ["letters", "last", "letter"] ["letters"] (defScope sCheckL) := ⟨rfl, rfl, rfl, by decide +kernel, rfl, by decide +kernel, by decide +kernel⟩
def spCheckL : Sp := fun vs H Q _ => ∃ al, vs = [.str (S al)] ∧ AlphOk al ∧ Q (.str (S al)) H
abbrev sCheckW : Stmt := top 10
theorem scCheckW : FnScope ["word", "letters", "index", "letter"] ["word", "letters"] (defScope sCheckW) := ⟨rfl, rfl, rfl, by decide +kernel, rfl, by decide +kernel, by decide +kernel⟩
def spCheckW : Sp := fun vs H Q _ => ∃ u al, vs = [.str (S u), .str (S al)] ∧ (∀ c ∈ u, c ∈ al) ∧ ∀ H', Same H H' → Q (.str (S u)) H'
theorem single_lt (a b : Nat) : ([a] < [b]) ↔ a < b := by
  constructor
  · intro h
    cases h with
    | rel h => exact h
    | cons h => cases h
  · exact fun h => List.Lex.rel h
theorem walk_enumS {z : Str} : L2.Walk (Ites z) z.cps.size (fun _ => True) (fun i H v H' => ∃ T c, v = .ref T ∧ H T = none ∧ H' = upd H T (.tup [.int (i : Nat), .str ⟨#[c]⟩]) ∧ z.cps[i]? = some c) :=
  ⟨fun _ _ hi _ => hi, fun _ _ => Nat.le_refl _, fun _ _ _ _ _ _ y => y⟩
section
variable {P : Program} {w : World} {K : PySem.W.Frag} {mg : Str → Option Value} {base : Heap}
theorem ok_checkL {f : Addr} {fd : FuncData} {t1 t2 : Tok} (F : Fun K "check_letters" "check_letters" sCheckL f fd) (tl : mg "len" = none) (gM : mg "MOST_LETTERS" = some (.int 3 t1)) (gS : mg "SMALL" = some (.str "abcdefghijklmnopqrstuvwxyz" t2)) : FnOk P w K mg base CX0 1 f fd ["letters"] spCheckL := by
  refine F.ok scCheckL (fun vs H Q E h => ?_) (fun cdv A outer s H vs Q E hr h => ?_)
  · obtain ⟨al, rfl, _⟩ := h
    rfl
  obtain ⟨al, rfl, hA, q⟩ := h
  have n1 := hA.n1
  have n3 := hA.n3
  refine ⟨_, (pss_cons (ps_if (pt_not (pt_chain op_le op_le pe_int (pB1 call_len_str tl (pv 0)) (pe_glob (v := .int 3) rfl gM ⟨_, rfl⟩))) (pss_one ps_never) pss_nil)
    (pss_cons (ps_set (i := 1) scCheckL.nd rfl (Or.inl rfl) pe_str)
    (pss_cons (ps_for PassesOwn.never rfl (pi_str (pv 0)) (pg_name (i := 2) scCheckL.nd rfl (Or.inl rfl))
      (pss_cons (ps_if (PW.pt (pw_or (pt_cmpR op_notIn_sign (pv 2) (pe_glob (v := .str "abcdefghijklmnopqrstuvwxyz") rfl gS ⟨_, rfl⟩) rfl) (pw_or1 (pt_cmpR op_le_str (pv 2) (pv 1) (nomark _))))) (pss_one ps_never) pss_nil)
      (pss_one (ps_set (i := 1) scCheckL.nd rfl (Or.inl rfl) (pv 2)))))
    (pss_one (ps_ret (pv 0)))))), ?_⟩
  refine ⟨_, rfl, _, rfl, by rw [S_len]; exact sz (by omega), _, _, rfl, rfl, _, rfl, ?_⟩
  refine ite2 (fun _ => ?_) (fun e => absurd (decide_eq_true (by rw [S_len]; omega)) e)
  refine ⟨_, _, rfl, rfl, _, rfl, ?_⟩
  refine ite2 (fun e => ?_) (fun _ => ?_)
  · have e2 : decide (((S al).length : Int) ≤ 3) = true := decide_eq_true (by rw [S_len]; omega)
    rw [e2] at e
    cases e
  refine ⟨_, rfl, _, rfl, ?_⟩
  refine L2.for_it L2.walk_str (fun i σ H' => ∃ (l : List Nat) (x : Option V), σ = [some (.str (S al)), some (.str (S l)), x] ∧ H' = H ∧ ∀ y, al[i]? = some y → l < [y]) ⟨[], none, rfl, rfl, fun y _ => List.nil_lt_cons _ _⟩ (fun _ _ _ _ _ => trivial) ?_ ?_
  · rintro i x σ H1 H2 hi ⟨l, z, rfl, rfl, hl⟩ ⟨rfl, c, hc, rfl⟩
    have hc' : al[i]? = some c := by
      rw [← hc]
      show al[i]? = al.toArray[i]?
      simp
    refine ⟨_, rfl, c, S small, rfl, by rw [small_eq], _, rfl, ?_⟩
    have hm : c ∈ small := mem_small (hA.lo c (List.mem_of_getElem? hc'))
    refine ite2 (fun e => ?_) (fun _ => ?_)
    · have e2 : decide (c ∈ (S small).cps.toList) = true := decide_eq_true hm
      rw [e2] at e
      cases e
    refine ⟨_, rfl, _, rfl, S [c], S l, rfl, rfl, _, rfl, ?_⟩
    refine ite2 (fun e => ?_) (fun _ => ?_)
    · have e2 : decide ((S l).cps.toList < (S [c]).cps.toList) = true := decide_eq_true (hl c hc')
      rw [e2] at e
      cases e
    refine ⟨_, rfl, [c], _, rfl, rfl, fun y hy => (single_lt c y).mpr ?_⟩
    obtain ⟨h1, e1⟩ := List.getElem?_eq_some_iff.mp hc'
    obtain ⟨h2, e2⟩ := List.getElem?_eq_some_iff.mp hy
    have := List.pairwise_iff_getElem.mp hA.asc i (i + 1) h1 h2 (by omega)
    omega
  · rintro σ H1 ⟨l, z, rfl, rfl, hl⟩
    exact ⟨_, rfl, q⟩
theorem ok_checkW {f : Addr} {fd : FuncData} (F : Fun K "check_word" "check_word" sCheckW f fd) (te : mg "enumerate" = none) : FnOk P w K mg base CX0 1 f fd ["word", "letters"] spCheckW := by
  refine F.ok scCheckW (fun vs H Q E h => ?_) (fun cdv A outer s H vs Q E hr h => ?_)
  · obtain ⟨u, al, rfl, _⟩ := h
    rfl
  obtain ⟨u, al, rfl, hA, q⟩ := h
  refine ⟨_, (pss_cons (ps_for PassesOwn.never rfl (pi_enumS (by rfl) te (pa_cons (pv 0) pa_nil)) (pg_tup (by rfl) (pgs_cons (pg_name (i := 2) scCheckW.nd rfl (Or.inl rfl)) (pgs_cons (pg_name (i := 3) scCheckW.nd rfl (Or.inl rfl)) pgs_nil)))
      (pss_one (ps_if (pt_cmpR op_notIn_sign (pv 3) (pv 1) rfl) (pss_one ps_never) pss_nil)))
    (pss_one (ps_ret (pv 0)))), ?_⟩
  refine ⟨_, rfl, _, rfl, ?_⟩
  refine L2.for_it (walk_enumS (z := S u)) (fun i σ H' => ∃ (x y : Option V), σ = [some (.str (S u)), some (.str (S al)), x, y] ∧ Same H H') ⟨none, none, rfl, Same.refl H⟩ (fun _ _ _ _ _ => trivial) ?_ ?_
  · rintro i x σ H1 H2 hi ⟨x1, y1, rfl, s1⟩ ⟨T, c, rfl, hT, rfl, hc⟩
    have hc' : u[i]? = some c := by
      rw [← hc]
      show u[i]? = u.toArray[i]?
      simp
    have s2 := s1.trans (same_new hT (.tup [.int (i : Int), .str ⟨#[c]⟩]))
    refine ⟨T, _, rfl, SqT.of upd_same, rfl, _, _, rfl, _, _, rfl, rfl, ?_⟩
    refine ⟨_, rfl, _, rfl, c, S al, rfl, rfl, _, rfl, ?_⟩
    refine ite2 (fun e => ?_) (fun _ => ?_)
    · have e2 : decide (c ∈ (S al).cps.toList) = true := decide_eq_true (hA c (List.mem_of_getElem? hc'))
      rw [e2] at e
      cases e
    exact ⟨_, _, rfl, s2⟩
  · rintro σ H1 ⟨x1, y1, rfl, s1⟩
    exact ⟨_, rfl, q H1 s1⟩
end
end W8

set_option Elab.async false
set_option linter.all false
set_option maxRecDepth 100000
set_option maxHeartbeats 4000000
namespace W8
open PySem L2 NK GM
/-! ### a game as an object -/
def gf (l w r p : V) : List (Str × V) := [("letters", l), ("words", w), ("rounds", r), ("pairs", p)]
theorem gf1 (l : V) : putF "letters" l [] = [(("letters" : Str), l)] := rfl
theorem gf2 (l w : V) : putF "words" w [(("letters" : Str), l)] = [(("letters" : Str), l), (("words" : Str), w)] := by
  show (if ("letters" : Str) = "words" then _ else _) = _
  rw [if_neg (by decide +kernel)]
  rfl
theorem gf3 (l w r : V) : putF "rounds" r [(("letters" : Str), l), (("words" : Str), w)] = [(("letters" : Str), l), (("words" : Str), w), (("rounds" : Str), r)] := by
  show (if ("letters" : Str) = "rounds" then _ else _ :: (if ("words" : Str) = "rounds" then _ else _)) = _
  rw [if_neg (by decide +kernel), if_neg (by decide +kernel)]
  rfl
theorem gf4 (l w r p : V) : putF "pairs" p [(("letters" : Str), l), (("words" : Str), w), (("rounds" : Str), r)] = gf l w r p := by
  show (if ("letters" : Str) = "pairs" then _ else _ :: (if ("words" : Str) = "pairs" then _ else _ :: (if ("rounds" : Str) = "pairs" then _ else _))) = _
  rw [if_neg (by decide +kernel), if_neg (by decide +kernel), if_neg (by decide +kernel)]
  rfl
theorem gf_letters (l w r p : V) : (gf l w r p).lookup ("letters" : Str) = some l := by rfl
theorem gf_words (l w r p : V) : (gf l w r p).lookup ("words" : Str) = some w := by rfl
theorem gf_rounds (l w r p : V) : (gf l w r p).lookup ("rounds" : Str) = some r := by rfl
theorem gf_pairs (l w r p : V) : (gf l w r p).lookup ("pairs" : Str) = some p := by rfl
theorem gf_no (l w r p : V) {m : Str} (h : (m == ("letters" : Str)) = false ∧ (m == ("words" : Str)) = false ∧ (m == ("rounds" : Str)) = false ∧ (m == ("pairs" : Str)) = false) : (gf l w r p).lookup m = none := by
  unfold gf
  rw [List.lookup_cons, h.1, List.lookup_cons, h.2.1, List.lookup_cons, h.2.2.1, List.lookup_cons, h.2.2.2]
  rfl
structure GameT (K : PySem.W.Frag) (mg : Str → Option Value) (C : Addr) : Prop where
  cl : Cls K C
  nL : NoAttr K C "letters"
  nW : NoAttr K C "words"
  nR : NoAttr K C "rounds"
  nP : NoAttr K C "pairs"
  con : ∃ u, Con K C "MOST_ROUNDS" (.int 3) u
  mgC : mg "Game" = some (.ref C)
abbrev sInit : Stmt := inClass (top 16) 1
theorem scInit : FnScope ["self", "letters", "one", "other", "rounds"] ["self", "letters", "one", "other", "rounds"] (defScope sInit) := ⟨rfl, rfl, rfl, by decide +kernel, rfl, by decide +kernel, by decide +kernel⟩
def spInit (C : Addr) : Sp := fun vs H Q _ => ∃ (p dx : Addr) (al u v : List Nat) (r : Int), vs = [.ref p, .str (S al), .str (S u), .str (S v), .int r] ∧ H p = some (.ins C dx []) ∧ AlphOk al ∧ (∀ c ∈ u, c ∈ al) ∧ (∀ c ∈ v, c ∈ al) ∧ 0 ≤ r ∧ r ≤ 3 ∧
  ∀ H' wt pt, But p H H' → H' p = some (.ins C dx (gf (.str (S al)) (.ref wt) (.int r) (.ref pt))) → H' wt = some (.tup [.str (S u), .str (S v)]) → H' pt = some (.tup []) → Q .non H'
section
variable {P : Program} {w : World} {K : PySem.W.Frag} {mg : Str → Option Value} {base : Heap}
theorem ok_init {f C : Addr} {fd : FuncData} (F : Fun K "__init__" "Game.__init__" sInit f fd) (T : GameT K mg C) (ccheck_letters : Cal P w K mg base "check_letters" 1 ["letters"] spCheckL) (ccheck_word : Cal P w K mg base "check_word" 1 ["word", "letters"] spCheckW) :
    FnOk P w K mg base CX0 2 f fd ["self", "letters", "one", "other", "rounds"] (spInit C) := by
  refine F.ok scInit (fun vs H Q E h => ?_) (fun cdv A outer s H vs Q E hr h => ?_)
  · obtain ⟨p, dx, al, u, v, r, rfl, _⟩ := h
    rfl
  obtain ⟨p, dx, al, u, v, r, rfl, hp, hA, hu, hv, r0, r3, q⟩ := h
  obtain ⟨uc, hcon⟩ := T.con
  refine ⟨_, (pss_cons (ps_fld (pv 0) (pcall ccheck_letters hr (pa_cons (pv 1) pa_nil)) rfl)
    (pss_cons (ps_fld (pv 0) (pe_tup (pa_cons (pcall ccheck_word hr (pa_cons (pv 2) (pa_cons (pv 1) pa_nil))) (pa_cons (pcall ccheck_word hr (pa_cons (pv 3) (pa_cons (pv 1) pa_nil))) pa_nil))) rfl)
    (pss_cons (ps_if (pt_not (pt_chain op_le op_le pe_int (pv 4) (pe_con (pv 0) rfl))) (pss_one ps_never) pss_nil)
    (pss_cons (ps_fld (pv 0) (pv 4) rfl)
    (pss_one (ps_fld (pv 0) (pe_tup pa_nil) rfl)))))), ?_⟩
  refine ⟨_, rfl, al, rfl, hA, _, rfl, p, C, dx, _, rfl, hp, T.cl, T.nL, (by show 0 < 1000; decide), ?_⟩
  refine ⟨_, rfl, _, rfl, u, al, rfl, hu, fun H1 s1 => ?_⟩
  refine ⟨_, rfl, _, rfl, v, al, rfl, hv, fun H2 s2 => ?_⟩
  have h2 := (s1.trans s2) p _ upd_same
  refine ⟨by show 2 ≤ sizeLine; decide, fun wt hwt => ?_⟩
  have nw : p ≠ wt := ne_of_none h2 hwt
  refine ⟨_, rfl, p, C, dx, _, rfl, by rw [upd_ne nw]; exact h2, T.cl, T.nW, (by show 1 < 1000; decide), ?_⟩
  refine ⟨_, rfl, _, _, rfl, rfl, _, rfl, ?_⟩
  refine ite2 (fun _ => ?_) (fun e => absurd (decide_eq_true r0) e)
  refine ⟨_, rfl, p, C, dx, _, _, uc, rfl, upd_same, T.cl, hcon, by rw [gf1, gf2] <;> rfl, _, _, rfl, rfl, _, rfl, ?_⟩
  refine ite2 (fun e => ?_) (fun _ => ?_)
  · have e2 : decide (r ≤ 3) = true := decide_eq_true r3
    rw [e2] at e
    cases e
  refine ⟨_, rfl, _, rfl, p, C, dx, _, rfl, upd_same, T.cl, T.nR, by rw [gf1, gf2]; show 2 < 1000; decide, ?_⟩
  refine ⟨Nat.zero_le _, fun pt hpt => ?_⟩
  have np : p ≠ pt := ne_of_none upd_same hpt
  refine ⟨_, rfl, p, C, dx, _, rfl, by rw [upd_ne np]; exact upd_same, T.cl, T.nP, by rw [gf1, gf2, gf3]; show 3 < 1000; decide, ?_⟩
  have nwp : wt ≠ pt := by
    intro e
    subst e
    rw [upd_ne (Ne.symm nw), upd_ne (Ne.symm nw), upd_same] at hpt
    cases hpt
  refine q _ wt pt (fun b o nb ho => ?_) (by rw [upd_same, gf1, gf2, gf3, gf4]) (by rw [upd_ne (Ne.symm nw), upd_ne nwp, upd_ne (Ne.symm nw), upd_ne (Ne.symm nw), upd_same]) (by rw [upd_ne (Ne.symm np), upd_same])
  have ho2 := (s1.trans s2) b o (by rw [upd_ne nb]; exact ho)
  have nbw : b ≠ wt := ne_of_none ho2 hwt
  have ho3 : (upd (upd (upd H2 wt (.tup [.str (S u), .str (S v)])) p (.ins C dx (putF "words" (.ref wt) (putF "letters" (.str (S al)) [])))) p (.ins C dx (putF "rounds" (.int r) (putF "words" (.ref wt) (putF "letters" (.str (S al)) []))))) b = some o := by
    rw [upd_ne nb, upd_ne nb, upd_ne nbw]
    exact ho2
  rw [upd_ne nb, upd_ne (ne_of_none ho3 hpt)]
  exact ho3
end
end W8

set_option Elab.async false
set_option linter.all false
set_option maxRecDepth 100000
set_option maxHeartbeats 4000000
namespace W8
open PySem L2 NK GM
structure GameSt (H : Hp) (p C dx wt pt : Addr) (al u v : List Nat) (r : Nat) (prs : Prs) (qs : List Addr) : Prop where
  o : H p = some (.ins C dx (gf (.str (S al)) (.ref wt) (.int (r : Int)) (.ref pt)))
  w : H wt = some (.tup [.str (S u), .str (S v)])
  t : H pt = some (.tup (qs.map V.ref))
  q : Paired (fun (q : Addr) (pr : Nat × Nat) => H q = some (.tup [natV pr.1, natV pr.2])) qs prs
theorem GameSt.mono {H H' : Hp} {p C dx wt pt : Addr} {al u v : List Nat} {r : Nat} {prs : Prs} {qs : List Addr} (s : Same H H') (g : GameSt H p C dx wt pt al u v r prs qs) : GameSt H' p C dx wt pt al u v r prs qs :=
  ⟨s _ _ g.o, s _ _ g.w, s _ _ g.t, Paired.mapP g.q fun _ _ z => s _ _ z⟩
theorem paired_get {α β : Type} {F : α → β → Prop} : ∀ {xs : List α} {ys : List β} {i : Nat} {x : α}, Paired F xs ys → xs[i]? = some x → ∃ y, ys[i]? = some y ∧ F x y
  | _, _, _, _, .nil, h => by cases h
  | _, _, 0, _, .cons h _, e => by cases e; exact ⟨_, rfl, h⟩
  | _ :: xs, _ :: ys, i + 1, x, .cons _ t, e => by
    have e' : xs[i]? = some x := by simpa using e
    obtain ⟨y, h1, h2⟩ := paired_get t e'
    exact ⟨y, by simpa using h1, h2⟩
def sel (j : Nat) (z : Nat × Nat) : Nat := if j = 0 then z.1 else z.2
theorem cost_mono : ∀ {r n m : Nat}, n ≤ m → cost r n ≤ cost r m
  | 0, _, _, _ => Nat.le_refl _
  | r + 1, n, m, h => by
    show 1 + (n + 1) * cost r n ≤ 1 + (m + 1) * cost r m
    exact Nat.add_le_add_left (Nat.mul_le_mul (by omega) (cost_mono h)) _
theorem cost_le {r n : Nat} (h : n ≤ 60) (hr : r ≤ 3) : cost r n ≤ 400000 := by
  refine Nat.le_trans (cost_mono h) ?_
  rcases r with _ | _ | _ | _ | r
  · decide
  · decide
  · decide
  · decide
  · omega
abbrev sWins : Stmt := inClass (top 16) 6
theorem scWins : FnScope ["self", "numbers", "left", "chosen", "one", "side", "pair"] ["self"] (defScope sWins) := ⟨rfl, rfl, rfl, by decide +kernel, rfl, by decide +kernel, by decide +kernel⟩
def spWins (C : Addr) : Sp := fun vs H Q _ => ∃ (p dx wt pt : Addr) (al u v : List Nat) (r : Nat) (prs : Prs) (qs : List Addr), vs = [.ref p] ∧ GameSt H p C dx wt pt al u v r prs qs ∧ u.length ≤ 60 ∧ v.length ≤ 60 ∧ r ≤ 3 ∧ prs.length ≤ r ∧ Inb u.length v.length prs ∧
  ∀ (b : Bool) H', Same H H' → (b = true ↔ Win (r - prs.length) u v prs) → Q (.bl b) H'
section
variable {P : Program} {w : World} {K : PySem.W.Frag} {mg : Str → Option Value} {base : Heap}
theorem ok_wins {f C : Addr} {fd : FuncData} (F : Fun K "wins" "Game.wins" sWins f fd) (T : GameT K mg C) (tl : mg "len" = none) (tt : mg "tuple" = none) (ckind : ∀ r : Nat, r ≤ 10 → Cal P w K mg base "kind_number" (3 + r) ["word", "places", "rounds", "numbers"] (spKindN P w K r)) :
    FnOk P w K mg base CX0 7 f fd ["self"] (spWins C) := by
  refine F.ok scWins (fun vs H Q E h => ?_) (fun cdv A outer s H vs Q E hr h => ?_)
  · obtain ⟨p, dx, wt, pt, al, u, v, r, prs, qs, rfl, _⟩ := h
    rfl
  obtain ⟨p, dx, wt, pt, al, u, v, r, prs, qs, rfl, G, hu, hv, r3, hpr, hin, q⟩ := h
  have hql : qs.length = prs.length := Paired.length G.q
  have c1 := ckind (r - prs.length) (by omega)
  have hk : 3 + (r - prs.length) ≤ 6 := by omega
  refine ⟨_, (pss_cons (ps_set (i := 1) scWins.nd rfl (Or.inl rfl) NK.pe_nnew)
    (pss_cons (ps_set (i := 2) scWins.nd rfl (Or.inl rfl) (pe_op op_sub (pe_fld (pv 0) rfl) (pB1 call_len_seq tl (pe_fld (pv 0) rfl))))
    (pss_cons (ps_setLc (i := 3) (own := [("side", 5)]) (g := gName 5) (tt := tYes) rfl scWins.nd rfl rfl (sw_true rfl rfl rfl (by decide +kernel)) (pi_tup (pe_tup (pa_cons pe_int (pa_cons pe_int pa_nil))))
      (blkOk_by (own := [("side", 5)]) (N := ["self", "numbers", "left", "chosen", "one", "side", "pair"]) (sc := defScope sWins) (by decide +kernel)) (fun _ _ _ _ _ => (pg_name (i := 5) scWins.nd rfl (Or.inr rfl))) (fun _ _ _ _ _ => pts_nil)
      (fun _ _ _ _ _ => (pT1 (r := rTupOf K) cr_tupOf tt (pe_lc (wi := iTup K (tFld K (tVar 0) "pairs")) (own := [("pair", 6)]) (g := gName 6) (tt := tYes) rfl scWins.nd (pi_tup (pe_fld (pv 0) rfl)) (blkOk_by (own := [("pair", 6)]) (N := ["self", "numbers", "left", "chosen", "one", "side", "pair"]) (sc := { kind := .function, names := [(".0", .local), ("side", .cell), ("tuple", .globalImplicit), ("self", .cell)], isGenerator := false, isCoroutine := false }) (by decide +kernel)) (fun _ _ _ _ _ => (pg_name (i := 6) scWins.nd rfl (Or.inl rfl))) (fun _ _ _ _ _ => pts_nil)
        (fun _ _ _ _ _ => (pe_ix (r := rIxT K) ix_tup (pv 6) (pv 5) (fun _ _ => rfl)))))))
    (pss_cons (ps_set (i := 4) scWins.nd rfl (Or.inl rfl) (pcall c1 hr (pa_cons (pixT (pe_fld (pv 0) rfl) pe_int) (pa_cons (pixL (pv 3) pe_int) (pa_cons (pv 2) (pa_cons (pv 1) pa_nil)))) hk))
    (pss_one (ps_ret (pe_cmpR op_eq (pv 4) (pcall c1 hr (pa_cons (pixT (pe_fld (pv 0) rfl) pe_int) (pa_cons (pixL (pv 3) pe_int) (pa_cons (pv 2) (pa_cons (pv 1) pa_nil)))) hk) (nomark _)))))))), ?_⟩
  intro d hd
  have s1 := same_new hd (ND P w d [])
  have G1 := G.mono s1
  refine ⟨_, rfl, p, C, dx, _, _, rfl, G1.o, T.cl, T.nR, gf_rounds _ _ _ _, _, rfl, p, C, dx, _, _, rfl, G1.o, T.cl, T.nP, gf_pairs _ _ _ _, pt, _, rfl, .inr (SqT.of G1.t), _, _, rfl, rfl, ?_⟩
  -- chosen
  refine ⟨by show 2 ≤ sizeLine; decide, fun a0 ha0 => ?_⟩
  have s2 := same_new ha0 (.tup [.int 0, .int 1])
  refine ⟨a0, rfl, ⟨_, SqT.of upd_same⟩, fun L hL => ?_⟩
  refine walk_t (xs := [.int 0, .int 1]) (fun i H' => Same (upd (upd H d (ND P w d [])) a0 (.tup [.int 0, .int 1])) H' ∧ ∃ ts : List Addr, ts.length = i ∧ H' L = some (.lst (ts.map V.ref)) ∧ ∀ (j : Nat) t, ts[j]? = some t → H' t = some (.tup ((prs.map (sel j)).map natV)))
    ⟨same_new hL _, [], rfl, upd_same, fun j t e => by cases e⟩ (fun i H' ⟨s3, _⟩ => SqT.of (s3 _ _ upd_same)) ?_ ?_
  · rintro i x H3 hx ⟨s3, ts, hts, hL3, hall⟩
    have hx2 : i ≤ 1 ∧ x = .int (i : Int) := by
      rcases i with _ | _ | i
      · cases hx; exact ⟨by omega, rfl⟩
      · cases hx; exact ⟨by omega, rfl⟩
      · cases hx
    obtain ⟨hi, rfl⟩ := hx2
    have G3 := G1.mono (s2.trans s3)
    refine ⟨rfl, yes ?_⟩
    refine ⟨_, rfl, p, C, dx, _, _, rfl, G3.o, T.cl, T.nP, gf_pairs _ _ _ _, pt, rfl, ⟨_, SqT.of G3.t⟩, fun D hD => ?_⟩
    refine walk_t (xs := qs.map V.ref) (fun j H' => Same H3 H' ∧ H' D = some (.lst (((prs.take j).map (sel i)).map natV))) ⟨same_new hD _, upd_same⟩ (fun j H' ⟨s4, _⟩ => SqT.of (s4 _ _ G3.t)) ?_ ?_
    · rintro j y H4 hy ⟨s4, hD4⟩
      obtain ⟨qa, hqa, rfl, _⟩ := get_map hy
      obtain ⟨pr, hprj, hq⟩ := paired_get G3.q hqa
      refine ⟨rfl, yes ?_⟩
      have hat : atI [natV pr.1, natV pr.2] (i : Int) = some (natV (sel i pr)) := by
        rcases i with _ | _ | i
        · rfl
        · rfl
        · omega
      refine ⟨_, rfl, _, rfl, qa, _, _, _, rfl, rfl, SqT.of (s4 _ _ hq), hat, ?_⟩
      refine ⟨_, hD4, small_lt ?_, same_upd s4 hD, ?_⟩
      · rw [List.length_map, List.length_map, List.length_take]
        omega
      · rw [upd_same, take_map _ hprj, List.map_append]
        rfl
    · rintro H4 ⟨s4, hD4⟩
      rw [List.length_map, hql, List.take_length] at hD4
      refine ⟨D, _, rfl, .inl ⟨SqL.of hD4, fun t ht => ?_⟩⟩
      have s5 := same_new ht (.tup ((prs.map (sel i)).map natV))
      have hL5 := s5 _ _ (s4 _ _ hL3)
      have ntL : t ≠ L := fun e => by
        rw [e, s4 _ _ hL3] at ht
        cases ht
      refine ⟨_, hL5, small_lt (by rw [List.length_map]; omega), same_upd (s3.trans (s4.trans s5)) hL, ts ++ [t], by rw [List.length_append, hts]; rfl, ?_, fun j t' hj => ?_⟩
      · rw [upd_same, List.map_append]
        rfl
      · by_cases hjl : j < ts.length
        · rw [List.getElem?_append_left hjl] at hj
          have h1 := hall j t' hj
          have n1 : t' ≠ L := ne_of h1 hL3 (by intro z; cases z)
          rw [upd_ne n1]
          exact s5 _ _ (s4 _ _ h1)
        · have hj2 := (List.getElem?_eq_some_iff.mp hj).1
          rw [List.length_append, List.length_singleton] at hj2
          have ej : j = ts.length := by omega
          rw [ej, List.getElem?_append_right (Nat.le_refl _)] at hj
          have et : t = t' := by simpa using hj
          rw [← et, upd_ne ntL, ej, hts]
          exact upd_same
  · rintro H3 ⟨s3, ts, hts, hL3, hall⟩
    obtain ⟨t0, t1, rfl⟩ : ∃ t0 t1, ts = [t0, t1] := by
      match ts, hts with
      | [t0, t1], _ => exact ⟨t0, t1, rfl⟩
    have ht0 := hall 0 t0 rfl
    have ht1 := hall 1 t1 rfl
    have G3 := G1.mono (s2.trans s3)
    have hd3 : H3 d = some (ND P w d []) := s3 _ _ (s2 _ _ upd_same)
    have eleft : (r : Int) - ((qs.map V.ref).length : Int) = ((r - prs.length : Nat) : Int) := by rw [List.length_map, hql]; omega
    have cu := cost_le (r := r - prs.length) hu (by omega)
    have cv := cost_le (r := r - prs.length) hv (by omega)
    -- one
    refine ⟨_, rfl, p, C, dx, _, _, rfl, G3.o, T.cl, T.nW, gf_words _ _ _ _, wt, _, _, _, rfl, rfl, SqT.of G3.w, rfl, _, rfl, L, _, _, _, rfl, rfl, SqL.of hL3, rfl, _, rfl, _, rfl, u, prs.map (sel 0), t0, d, [],
      congrArg (fun z => [V.str (S u), V.ref t0, V.int z, V.ref d]) eleft, SqT.of ht0, fun y hy => ?_, hu, by rw [List.length_map]; omega, ⟨[], hd3, (fun _ h => nomatch h), rfl, (fun _ _ e => by cases e), List.nodup_nil⟩, by show 0 + _ ≤ _; omega, fun n D1 H5 b5 hN5 pre5 len5 hn5 => ?_⟩
    · obtain ⟨z, hz, rfl⟩ := List.mem_map.mp hy
      exact (hin z hz).1
    have S5 : Same H H5 := fun b o e => b5 b o (ne_of_none e hd) (s3 _ _ (s2 _ _ (s1 _ _ e)))
    have G5 := G.mono S5
    have hL5 := b5 L _ (ne_of hL3 hd3 (by intro z; cases z)) hL3
    have ht5 := b5 t1 _ (ne_of ht1 hd3 (by intro z; cases z)) ht1
    have len5' : D1.length ≤ cost (r - prs.length) u.length := by
      have : ([] : List (List Itm)).length = 0 := rfl
      omega
    refine ⟨_, rfl, _, rfl, p, C, dx, _, _, rfl, G5.o, T.cl, T.nW, gf_words _ _ _ _, wt, _, _, _, rfl, rfl, SqT.of G5.w, rfl, _, rfl, L, _, _, _, rfl, rfl, SqL.of hL5, rfl, _, rfl, _, rfl, v, prs.map (sel 1), t1, d, D1,
      congrArg (fun z => [V.str (S v), V.ref t1, V.int z, V.ref d]) eleft, SqT.of ht5, fun y hy => ?_, hv, by rw [List.length_map]; omega, hN5, by omega, fun m D2 H6 b6 hN6 pre6 len6 hn6 => ?_⟩
    · obtain ⟨z, hz, rfl⟩ := List.mem_map.mp hy
      exact (hin z hz).2
    refine ⟨rfl, q _ H6 (fun b o e => b6 b o (ne_of_none e hd) (S5 b o e)) ?_⟩
    obtain ⟨kvs, _, _, hk3, _, nd⟩ := hN6
    rw [← num_iff nd hin (hn5.mono pre6) hn6, decide_eq_true_eq]
    constructor
    · intro e
      have : (n : Int) = (m : Int) := by injection e
      omega
    · intro e
      rw [e]
end
end W8

set_option Elab.async false
set_option linter.all false
set_option maxRecDepth 100000
set_option maxHeartbeats 4000000
namespace W8
open PySem L2 PySem.StrLaws PySem.Builtin PySem.Builtin.Str
theorem occ_stays (s sub : Str) (hi : Nat) : ∀ (l : List Nat) (st : Array Nat × Nat), st.fst.size = 1 → (forIn l st (occBody s sub hi 1)).run.fst = st.fst
  | [], st, _ => rfl
  | a :: l, st, h => by
    rw [List.forIn_cons]
    unfold occBody
    have c : ¬ (((st.fst.size < 1 ∧ st.snd ≤ a) ∧ a + sub.length ≤ hi) ∧ subAt s sub a = true) := fun z => by omega
    rw [if_neg c]
    exact occ_stays s sub hi l _ h
theorem occ_find (s sub : Str) (hi : Nat) : ∀ (l : List Nat) (free : Nat), (∀ i ∈ l, free ≤ i) →
    (forIn l ((#[] : Array Nat), free) (occBody s sub hi 1)).run.fst.toList.head? = l.find? fun i => decide (i + sub.length ≤ hi ∧ subAt s sub i = true)
  | [], free, _ => rfl
  | a :: l, free, hf => by
    rw [List.forIn_cons, List.find?_cons]
    unfold occBody
    have ha : free ≤ a := hf a List.mem_cons_self
    by_cases hc : a + sub.length ≤ hi ∧ subAt s sub a = true
    · rw [if_pos ⟨⟨⟨(by show 0 < 1; decide), ha⟩, hc.1⟩, hc.2⟩, decide_eq_true hc]
      have q := occ_stays s sub hi l ((#[] : Array Nat).push a, a + sub.length) rfl
      show (forIn l ((#[] : Array Nat).push a, a + sub.length) (occBody s sub hi 1)).run.fst.toList.head? = some a
      rw [q]
      rfl
    · rw [if_neg (fun z => hc ⟨z.1.2, z.2⟩), decide_eq_false hc]
      exact occ_find s sub hi l free fun i hi' => hf i (List.mem_cons_of_mem _ hi')
/-- letters.index(letter) -/
theorem index_of {al : List Nat} {c : Nat} (h : c ∈ al) : (∃ k, Txt.index0 (S al) (S [c]) = some k) ∧ ∀ k, Txt.index0 (S al) (S [c]) = some k → al[k]? = some c := by
  have e : Txt.index0 (S al) (S [c]) = (List.range' 0 ((S al).length + 1 - 0)).find? fun i => decide (i + (⟨#[c]⟩ : Str).length ≤ (S al).length ∧ subAt (S al) ⟨#[c]⟩ i = true) := by
    unfold Txt.index0
    rw [occ_eq]
    exact occ_find (S al) ⟨#[c]⟩ (S al).length _ 0 fun _ _ => Nat.zero_le _
  rw [e]
  constructor
  · obtain ⟨i, hi⟩ := List.getElem?_of_mem h
    have hs := (subAt_one (S al) c i).mpr hi
    have := List.find?_isSome (xs := List.range' 0 ((S al).length + 1 - 0)) (p := fun i => decide (i + (⟨#[c]⟩ : Str).length ≤ (S al).length ∧ subAt (S al) ⟨#[c]⟩ i = true))
    rw [← Option.isSome_iff_exists]
    refine this.mpr ⟨i, ?_, decide_eq_true hs⟩
    have hl := hs.1
    rw [List.mem_range'_1]
    have : (⟨#[c]⟩ : Str).length = 1 := rfl
    omega
  · intro k hk
    have q := List.find?_some hk
    exact (subAt_one (S al) c k).mp (of_decide_eq_true q)
end W8

set_option Elab.async false
set_option linter.all false
set_option maxRecDepth 100000
set_option maxHeartbeats 4000000
namespace W8
open PySem L2
/-! ### plain data and their kinds -/
def tyN : PyData → String
  | .none => "NoneType"
  | .bool _ => "bool"
  | .int _ => "int"
  | .str _ => "str"
  | .list _ => "list"
  | .tuple _ => "tuple"
  | .dict _ => "dict"
/-- lists nested less than n deep, none of them too long -/
def okE : Nat → PyData → Prop
  | 0, _ => False
  | n + 1, .list es => es.length ≤ 100000 ∧ ∀ x ∈ es, okE n x
  | n + 1, .tuple es => es.length ≤ 100000 ∧ ∀ x ∈ es, okE n x
  | _ + 1, _ => True
abbrev okAll (n : Nat) (es : List PyData) : Prop := es.length ≤ 100000 ∧ ∀ x ∈ es, okE n x
theorem dpAll_get {K : PySem.W.Frag} {H : Hp} : ∀ {vs : List V} {ds : List PyData} {i : Nat} {d : PyData}, DpAll K H vs ds → ds[i]? = some d → ∃ v, vs[i]? = some v ∧ Dp K H v d
  | _, _, _, _, .nil, h => by cases h
  | _, _, 0, _, .cons h _, e => by cases e; exact ⟨_, rfl, h⟩
  | v :: vs, d' :: ds, i + 1, d, .cons _ t, e => by
    have e' : ds[i]? = some d := by simpa using e
    obtain ⟨y, h1, h2⟩ := dpAll_get t e'
    exact ⟨y, by simpa using h1, h2⟩
theorem dpAll_length {K : PySem.W.Frag} {H : Hp} : ∀ {vs : List V} {ds : List PyData}, DpAll K H vs ds → vs.length = ds.length
  | _, _, .nil => rfl
  | _, _, .cons _ t => by rw [List.length_cons, List.length_cons, dpAll_length t]
theorem dp_ty {K : PySem.W.Frag} {H : Hp} {v : V} {d : PyData} (h : Dp K H v d) : TyX K H v (.type (tyN d)) := by
  cases h with
  | non => exact .base .non
  | bl b => exact .base (.bl b)
  | int i => exact .base (.int i)
  | str x => exact .base (.str x)
  | lst h _ =>
    rcases h with (h | ⟨o, h⟩) | ⟨o, its, n, hk, hc, _⟩
    · exact .base (.lst h)
    · exact .base (.frz h)
    · exact .kList hk hc
  | tup h _ =>
    rcases h with (h | ⟨o, h⟩) | ⟨o, its, n, hk, hc, _⟩
    · exact .base (.tup h)
    · exact .fTuple h
    · exact .kTuple hk hc
mutual
theorem dp_mono {K : PySem.W.Frag} {H H' : Hp} (s : Same H H') : ∀ {v : V} {d : PyData}, Dp K H v d → Dp K H' v d
  | _, _, .non => .non
  | _, _, .bl b => .bl b
  | _, _, .int i => .int i
  | _, _, .str x => .str x
  | _, _, .lst h t => .lst (s.seq h) (dpAll_mono s t)
  | _, _, .tup h t => .tup (by
      rcases h with (h | ⟨o, h⟩) | h
      · exact .inl (.inl (s _ _ h))
      · exact .inl (.inr ⟨o, s _ _ h⟩)
      · exact .inr h) (dpAll_mono s t)
theorem dpAll_mono {K : PySem.W.Frag} {H H' : Hp} (s : Same H H') : ∀ {vs : List V} {ds : List PyData}, DpAll K H vs ds → DpAll K H' vs ds
  | _, _, .nil => .nil
  | _, _, .cons h t => .cons (dp_mono s h) (dpAll_mono s t)
end
def isBoolD : PyData → Bool
  | .bool _ => true
  | _ => false
def isIntD : PyData → Bool
  | .bool _ => true
  | .int _ => true
  | _ => false
def isStrD : PyData → Bool
  | .str _ => true
  | _ => false
def isListD : PyData → Bool
  | .list _ => true
  | _ => false
def isTupD : PyData → Bool
  | .tuple _ => true
  | _ => false
def kNames : List String := ["NoneType", "bool", "int", "str", "list", "tuple", "dict"]
theorem tyN_mem (d : PyData) : tyN d ∈ kNames := by cases d <;> (unfold tyN kNames; simp)
theorem kit_tab {K : PySem.W.Frag} {T : String} {f : String → Bool} (h : (kNames.all fun t => kitB t T == some (f t)) = true) {t : String} (ht : t ∈ kNames) : PySem.W.kitOne K (.type t) (.type T) = some (f t) :=
  kit_ty (beq_iff_eq.mp (List.all_eq_true.mp h t ht))
theorem kit_bool {K : PySem.W.Frag} (d : PyData) : PySem.W.kitOne K (.type (tyN d)) (.type "bool") = some (isBoolD d) := by
  have e := kit_tab (K := K) (T := "bool") (f := fun t => t == "bool") (by decide +kernel) (tyN_mem d)
  rw [e]; cases d <;> rfl
theorem kit_int {K : PySem.W.Frag} (d : PyData) : PySem.W.kitOne K (.type (tyN d)) (.type "int") = some (isIntD d) := by
  have e := kit_tab (K := K) (T := "int") (f := fun t => t == "int" || t == "bool") (by decide +kernel) (tyN_mem d)
  rw [e]; cases d <;> rfl
theorem kit_str {K : PySem.W.Frag} (d : PyData) : PySem.W.kitOne K (.type (tyN d)) (.type "str") = some (isStrD d) := by
  have e := kit_tab (K := K) (T := "str") (f := fun t => t == "str") (by decide +kernel) (tyN_mem d)
  rw [e]; cases d <;> rfl
theorem kit_list {K : PySem.W.Frag} (d : PyData) : PySem.W.kitOne K (.type (tyN d)) (.type "list") = some (isListD d) := by
  have e := kit_tab (K := K) (T := "list") (f := fun t => t == "list") (by decide +kernel) (tyN_mem d)
  rw [e]; cases d <;> rfl
theorem kit_tuple {K : PySem.W.Frag} (d : PyData) : PySem.W.kitOne K (.type (tyN d)) (.type "tuple") = some (isTupD d) := by
  have e := kit_tab (K := K) (T := "tuple") (f := fun t => t == "tuple") (by decide +kernel) (tyN_mem d)
  rw [e]; cases d <;> rfl
theorem isi_of {K : PySem.W.Frag} {H : Hp} {x : V} {d : PyData} {T : String} {b : Bool} {Q : VK} (h : Dp K H x d) (k : PySem.W.kitOne K (.type (tyN d)) (.type T) = some b) (q : Q (.bl b) H) : rIsi K [x, .ty T] H Q :=
  ⟨x, .ty T, _, _, _, rfl, .ty T, dp_ty h, k, q⟩
abbrev sSame : Stmt := top 20
theorem scSame : FnScope ["actual", "expected", "k"] ["actual", "expected"] (defScope sSame) := ⟨rfl, rfl, rfl, by decide +kernel, rfl, by decide +kernel, by decide +kernel⟩
def spSame (K : PySem.W.Frag) (n : Nat) : Sp := fun vs H Q _ => ∃ (x y : V) (d e : PyData), vs = [x, y] ∧ Dp K H x d ∧ Dp K H y e ∧ okE n e ∧ ∀ (b : Bool) H', Same H H' → (b = true ↔ d = e) → Q (.bl b) H'
structure SameT (mg : Str → Option Value) : Prop where
  isinstance : mg "isinstance" = none
  bool : mg "bool" = none
  int : mg "int" = none
  str : mg "str" = none
  list : mg "list" = none
  tuple : mg "tuple" = none
  len : mg "len" = none
  range : mg "range" = none
def SeqF (K : PySem.W.Frag) (H : Hp) (x : V) (xs : List V) : Prop := (∃ a, x = .ref a ∧ SqL K H a xs) ∨ (∃ a, x = .ref a ∧ SqT K H a xs)
theorem SeqF.ix {K : PySem.W.Frag} {H : Hp} {x v : V} {xs : List V} {i : Int} {Q : VK} (s : SeqF K H x xs) (h : atI xs i = some v) (q : Q v H) : rIx K x (.int i) H Q := by
  rcases s with ⟨a, rfl, s⟩ | ⟨a, rfl, s⟩
  · exact .inl ⟨a, xs, i, v, rfl, rfl, s, h, q⟩
  · exact .inr (.inl ⟨a, xs, i, v, rfl, rfl, s, h, q⟩)
theorem SeqF.mono {K : PySem.W.Frag} {H H' : Hp} {x : V} {xs : List V} (m : Same H H') (s : SeqF K H x xs) : SeqF K H' x xs := by
  rcases s with ⟨a, rfl, s⟩ | ⟨a, rfl, (h | ⟨o, h⟩) | h⟩
  · exact .inl ⟨a, rfl, m.seq s⟩
  · exact .inr ⟨a, rfl, .inl (.inl (m _ _ h))⟩
  · exact .inr ⟨a, rfl, .inl (.inr ⟨o, m _ _ h⟩)⟩
  · exact .inr ⟨a, rfl, .inr h⟩
theorem SeqF.len {K : PySem.W.Frag} {H : Hp} {x : V} {xs : List V} (s : SeqF K H x xs) : ∃ p, x = .ref p ∧ (SqL K H p xs ∨ SqT K H p xs) := by
  rcases s with ⟨a, rfl, s⟩ | ⟨a, rfl, s⟩
  · exact ⟨a, rfl, .inl s⟩
  · exact ⟨a, rfl, .inr s⟩
section
variable {P : Program} {w : World} {K : PySem.W.Frag} {mg : Str → Option Value} {base : Heap}
theorem same0 {f : Addr} {fd : FuncData} : FnOk P w K mg base CX0 0 f fd ["actual", "expected"] (spSame K 0) := by
  have no : ∀ vs H Q E, ¬ spSame K 0 vs H Q E := fun vs H Q E h => by
    obtain ⟨x, y, d, e, _, _, _, h, _⟩ := h
    exact h
  exact ⟨fun vs H Q E h => absurd h (no vs H Q E), fun A outer s H args us vs Q E _ _ _ _ h => absurd h (no vs H Q E)⟩
theorem sameS {n : Nat} {f : Addr} {fd : FuncData} (F : Fun K "_law_same" "_law_same" sSame f fd) (T : SameT mg) (c_law_same : Cal P w K mg base "_law_same" n ["actual", "expected"] (spSame K n)) : FnOk P w K mg base CX0 (n + 1) f fd ["actual", "expected"] (spSame K (n + 1)) := by
  refine F.ok scSame (fun vs H Q E h => ?_) (fun cdv A outer s H vs Q E hr h => ?_)
  · obtain ⟨x, y, d, e, rfl, _⟩ := h
    rfl
  obtain ⟨x, y, d, e, rfl, hx, hy, hn, q⟩ := h
  refine ⟨_, (pss_cons (ps_if (pt_cmpR op_isN (pv 1) pe_non (nomark _)) (pss_one (ps_ret (pe_cmpR op_isN (pv 0) pe_non (nomark _)))) pss_nil)
    (pss_cons (ps_if (pt_val (pe_callB call_isi (by rfl) T.isinstance (by decide +kernel) (pa_cons (pv 1) (pa_cons (pe_bltn (v := .ty "bool") (by rfl) T.bool (by decide +kernel) rfl) pa_nil))))
      (pss_one (ps_ret (pe_and (pe_callB call_isi (by rfl) T.isinstance (by decide +kernel) (pa_cons (pv 0) (pa_cons (pe_bltn (v := .ty "bool") (by rfl) T.bool (by decide +kernel) rfl) pa_nil))) (pe_one (pe_cmpR op_eq (pv 0) (pv 1) (nomark _)))))) pss_nil)
    (pss_cons (ps_if (pt_val (pe_callB call_isi (by rfl) T.isinstance (by decide +kernel) (pa_cons (pv 1) (pa_cons (pe_bltn (v := .ty "int") (by rfl) T.int (by decide +kernel) rfl) pa_nil))))
      (pss_one (ps_ret (pe_and (pe_callB call_isi (by rfl) T.isinstance (by decide +kernel) (pa_cons (pv 0) (pa_cons (pe_bltn (v := .ty "int") (by rfl) T.int (by decide +kernel) rfl) pa_nil))) (pe_and (pe_not (pe_callB call_isi (by rfl) T.isinstance (by decide +kernel) (pa_cons (pv 0) (pa_cons (pe_bltn (v := .ty "bool") (by rfl) T.bool (by decide +kernel) rfl) pa_nil)))) (pe_one (pe_cmpR op_eq (pv 0) (pv 1) (nomark _))))))) pss_nil)
    (pss_cons (ps_if (pt_val (pe_callB call_isi (by rfl) T.isinstance (by decide +kernel) (pa_cons (pv 1) (pa_cons (pe_bltn (v := .ty "str") (by rfl) T.str (by decide +kernel) rfl) pa_nil))))
      (pss_one (ps_ret (pe_and (pe_callB call_isi (by rfl) T.isinstance (by decide +kernel) (pa_cons (pv 0) (pa_cons (pe_bltn (v := .ty "str") (by rfl) T.str (by decide +kernel) rfl) pa_nil))) (pe_one (pe_cmpR op_eq (pv 0) (pv 1) (nomark _)))))) pss_nil)
    (C8.pss_cut (ps_if (PW.pt (pw_and (pt_val (pe_callB call_isi (by rfl) T.isinstance (by decide +kernel) (pa_cons (pv 1) (pa_cons (pe_bltn (v := .ty "list") (by rfl) T.list (by decide +kernel) rfl) pa_nil)))) (pw_and1 (pt_not (pt_val (pe_callB call_isi (by rfl) T.isinstance (by decide +kernel) (pa_cons (pv 0) (pa_cons (pe_bltn (v := .ty "list") (by rfl) T.list (by decide +kernel) rfl) pa_nil))))))))
      (pss_one (ps_ret pe_bl)) pss_nil)
    (C8.pss_cut (ps_if (PW.pt (pw_and (pt_val (pe_callB call_isi (by rfl) T.isinstance (by decide +kernel) (pa_cons (pv 1) (pa_cons (pe_bltn (v := .ty "tuple") (by rfl) T.tuple (by decide +kernel) rfl) pa_nil)))) (pw_and1 (pt_not (pt_val (pe_callB call_isi (by rfl) T.isinstance (by decide +kernel) (pa_cons (pv 0) (pa_cons (pe_bltn (v := .ty "tuple") (by rfl) T.tuple (by decide +kernel) rfl) pa_nil))))))))
      (pss_one (ps_ret pe_bl)) pss_nil)
    (pss_cons (ps_if (pt_cmpR op_ne (pB1 call_len_seq T.len (pv 0)) (pB1 call_len_seq T.len (pv 1)) (nomark _)) (pss_one (ps_ret pe_bl)) pss_nil)
    (pss_cons (ps_for PassesOwn.never rfl (pi_range1 (by rfl) T.range (pa_cons (pB1 call_len_seq T.len (pv 1)) pa_nil)) (pg_name (i := 2) scSame.nd rfl (Or.inl rfl))
      (pss_one (ps_if (pt_not (pt_val (pcall c_law_same hr (pa_cons (pe_ix ix_seq (pv 0) (pv 2) (fun _ _ => rfl)) (pa_cons (pe_ix ix_seq (pv 1) (pv 2) (fun _ _ => rfl)) pa_nil)) (hk := Nat.le_refl _)))) (pss_one (ps_ret pe_bl)) pss_nil)))
    (pss_one (ps_ret pe_bl)))))))))), ?_⟩
  -- if expected is None
  refine ⟨_, rfl, rfl, _, rfl, ?_⟩
  refine ite2 (fun c => ?_) (fun c0 => ?_)
  · have ey : y = .non := of_decide_eq_true c
    subst ey
    cases hy
    refine ⟨_, rfl, rfl, q _ H (Same.refl H) ?_⟩
    cases hx <;> simp
  -- isinstance(expected, bool)
  refine ⟨_, rfl, _, _, _, _, _, rfl, .ty _, dp_ty hy, kit_bool e, _, rfl, ?_⟩
  refine ite2 (fun c => ?_) (fun c1 => ?_)
  · cases hy <;> first | (cases c; done) | skip
    refine ⟨_, rfl, _, _, _, _, _, rfl, .ty _, dp_ty hx, kit_bool d, _, rfl, ?_⟩
    refine ite2 (fun c2 => ?_) (fun c2 => ?_)
    · cases hx <;> first | (cases c2; done) | skip
      refine ⟨_, rfl, _, rfl, rfl, q _ H (Same.refl H) ?_⟩
      rw [decide_eq_true_eq]
      constructor
      · intro h; injection h with h; rw [h]
      · intro h; injection h with h; rw [h]
    · refine q _ H (Same.refl H) ⟨fun z => (nomatch z), fun z => absurd (by rw [z]; rfl) c2⟩
  -- isinstance(expected, int)
  refine ⟨_, rfl, _, _, _, _, _, rfl, .ty _, dp_ty hy, kit_int e, _, rfl, ?_⟩
  refine ite2 (fun c => ?_) (fun c3 => ?_)
  · cases hy <;> first | (cases c; done) | (exact absurd rfl c1) | skip
    refine ⟨_, rfl, _, _, _, _, _, rfl, .ty _, dp_ty hx, kit_int d, _, rfl, ?_⟩
    refine ite2 (fun c2 => ?_) (fun c2 => ?_)
    · refine ⟨_, rfl, _, _, _, _, _, rfl, .ty _, dp_ty hx, kit_bool d, _, rfl, _, rfl, ?_⟩
      refine ite2 (fun c4 => ?_) (fun c4 => ?_)
      · cases hx <;> first | (cases c2; done) | (cases c4; done) | skip
        refine ⟨_, rfl, _, rfl, rfl, q _ H (Same.refl H) ?_⟩
        rw [decide_eq_true_eq]
        constructor
        · intro h; injection h with h; rw [h]
        · intro h; injection h with h; rw [h]
      · refine q _ H (Same.refl H) ⟨fun z => (nomatch z), fun z => absurd (by rw [z]; rfl) c4⟩
    · refine q _ H (Same.refl H) ⟨fun z => (nomatch z), fun z => absurd (by rw [z]; rfl) c2⟩
  -- isinstance(expected, str)
  refine ⟨_, rfl, _, _, _, _, _, rfl, .ty _, dp_ty hy, kit_str e, _, rfl, ?_⟩
  refine ite2 (fun c => ?_) (fun c5 => ?_)
  · cases hy <;> first | (cases c; done) | skip
    refine ⟨_, rfl, _, _, _, _, _, rfl, .ty _, dp_ty hx, kit_str d, _, rfl, ?_⟩
    refine ite2 (fun c2 => ?_) (fun c2 => ?_)
    · cases hx <;> first | (cases c2; done) | skip
      refine ⟨_, rfl, _, rfl, rfl, q _ H (Same.refl H) ?_⟩
      rw [decide_eq_true_eq]
      constructor
      · intro h; injection h with h; rw [h]
      · intro h; injection h with h; rw [h]
    · refine q _ H (Same.refl H) ⟨fun z => (nomatch z), fun z => absurd (by rw [z]; rfl) c2⟩
  -- lists and tuples
  refine ⟨fun σ' H' => σ' = [some x, some y, none] ∧ H' = H ∧ (isListD e = true → isListD d = true), ?_, ?_⟩
  · refine ⟨_, rfl, _, _, _, _, _, rfl, .ty _, dp_ty hy, kit_list e, _, rfl, ?_⟩
    refine ite2 (fun c6 => ?_) (fun c6 => ?_)
    · refine ⟨_, rfl, _, _, _, _, _, rfl, .ty _, dp_ty hx, kit_list d, _, rfl, ?_⟩
      refine ite2 (fun c7 => ?_) (fun c7 => ?_)
      · refine q _ H (Same.refl H) ⟨fun z => (nomatch z), fun z => ?_⟩
        rw [z, c6] at c7
        cases c7
      · refine ⟨rfl, rfl, fun _ => ?_⟩
        cases h : isListD d with
        | true => rfl
        | false => exact absurd (by rw [h]; rfl) c7
    · refine ite2 (fun z => (nomatch z)) (fun _ => ?_)
      exact ⟨rfl, rfl, fun z => absurd z c6⟩
  rintro σ' H' ⟨rfl, rfl, hl⟩
  refine ⟨fun σ' H'' => σ' = [some x, some y, none] ∧ H'' = H' ∧ (isTupD e = true → isTupD d = true), ?_, ?_⟩
  · refine ⟨_, rfl, _, _, _, _, _, rfl, .ty _, dp_ty hy, kit_tuple e, _, rfl, ?_⟩
    refine ite2 (fun c6 => ?_) (fun c6 => ?_)
    · refine ⟨_, rfl, _, _, _, _, _, rfl, .ty _, dp_ty hx, kit_tuple d, _, rfl, ?_⟩
      refine ite2 (fun c7 => ?_) (fun c7 => ?_)
      · refine q _ H' (Same.refl H') ⟨fun z => (nomatch z), fun z => ?_⟩
        rw [z, c6] at c7
        cases c7
      · refine ⟨rfl, rfl, fun _ => ?_⟩
        cases h : isTupD d with
        | true => rfl
        | false => exact absurd (by rw [h]; rfl) c7
    · refine ite2 (fun z => (nomatch z)) (fun _ => ?_)
      exact ⟨rfl, rfl, fun z => absurd z c6⟩
  rintro σ' H'' ⟨rfl, rfl, ht⟩
  obtain ⟨xs, ys, ds, es, sx, sy, ax, ay, hde, hok⟩ : ∃ (xs ys : List V) (ds es : List PyData), SeqF K H'' x xs ∧ SeqF K H'' y ys ∧ DpAll K H'' xs ds ∧ DpAll K H'' ys es ∧ (ds = es ↔ d = e) ∧ okAll n es := by
    cases hy with
    | non => exact absurd (decide_eq_true rfl) c0
    | bl b => exact absurd rfl c1
    | int i => exact absurd rfl c3
    | str z => exact absurd rfl c5
    | lst h1 h2 =>
      have h := hl rfl
      cases hx <;> first | (cases h; done) | skip
      rename_i h3 h4
      exact ⟨_, _, _, _, .inl ⟨_, rfl, h3⟩, .inl ⟨_, rfl, h1⟩, h4, h2, ⟨fun z => by rw [z], fun z => by injection z⟩, hn⟩
    | tup h1 h2 =>
      have h := ht rfl
      cases hx <;> first | (cases h; done) | skip
      rename_i h3 h4
      exact ⟨_, _, _, _, .inr ⟨_, rfl, h3⟩, .inr ⟨_, rfl, h1⟩, h4, h2, ⟨fun z => by rw [z], fun z => by injection z⟩, hn⟩
  have lx := dpAll_length ax
  have ly := dpAll_length ay
  obtain ⟨p1, e1, l1⟩ := sx.len
  obtain ⟨p2, e2, l2⟩ := sy.len
  refine ⟨_, rfl, p1, xs, by rw [e1], l1, _, rfl, p2, ys, by rw [e2], l2, rfl, _, rfl, ?_⟩
  refine ite2 (fun c => ?_) (fun c => ?_)
  · refine q _ H'' (Same.refl H'') ⟨fun z => (nomatch z), fun z => ?_⟩
    have hl2 : xs.length = ys.length := by rw [lx, ly, hde.mpr z]
    rw [hl2, decide_eq_true rfl] at c
    cases c
  have hlen : xs.length = ys.length := by
    by_cases h : xs.length = ys.length
    · exact h
    · refine absurd ?_ c
      have : decide (V.int (xs.length : Int) = V.int (ys.length : Int)) = false := decide_eq_false (fun z => h (by injection z with z; omega))
      rw [this]
      rfl
  have hbig := hok.1
  refine ⟨_, rfl, p2, ys, by rw [e2], l2, _, rfl, by omega, by omega, ?_⟩
  have en : ((ys.length : Int)).toNat = es.length := by omega
  rw [en]
  refine for_range (lo := 0) (n := es.length) (fun i σ H' => ∃ k : Option V, σ = [some x, some y, k] ∧ Same H'' H' ∧ ∀ j, j < i → ds[j]? = es[j]?) ⟨none, rfl, Same.refl _, fun j h => absurd h (by omega)⟩ ?_ ?_
  · rintro i σ H1 hi ⟨k, rfl, s1, hall⟩
    have hid : ds[i]? = some (ds[i]'(by omega)) := List.getElem?_eq_getElem (by omega)
    have hie : es[i]? = some es[i] := List.getElem?_eq_getElem hi
    obtain ⟨v1, hv1, hd1⟩ := dpAll_get ax hid
    obtain ⟨v2, hv2, hd2⟩ := dpAll_get ay hie
    have a1 : atI xs (0 + (i : Int)) = some v1 := by rw [Int.zero_add]; exact atI_nat hv1
    have a2 : atI ys (0 + (i : Int)) = some v2 := by rw [Int.zero_add]; exact atI_nat hv2
    refine ⟨_, rfl, _, rfl, (sx.mono s1).ix a1 ⟨_, rfl, _, rfl, (sy.mono s1).ix a2 ⟨v1, v2, ds[i], es[i], rfl, dp_mono s1 hd1, dp_mono s1 hd2, hok.2 _ (List.getElem_mem hi), fun b H2 s2 hb => ⟨_, rfl, ?_⟩⟩⟩⟩
    refine ite2 (fun c => ?_) (fun c => ?_)
    · refine q _ H2 (s1.trans s2) ⟨fun z => (nomatch z), fun z => ?_⟩
      have : b = true := hb.mpr (by
        have hz := hde.mpr z
        have : ds[i]? = es[i]? := by rw [hz]
        rw [hid, hie] at this
        exact Option.some.inj this)
      rw [this] at c
      cases c
    · have hbt : b = true := by
        cases b with
        | true => rfl
        | false => exact absurd rfl c
      refine ⟨_, rfl, s1.trans s2, fun j hj => ?_⟩
      by_cases e : j = i
      · rw [e, hid, hie, hb.mp hbt]
      · exact hall j (by omega)
  · rintro σ H1 ⟨k, rfl, s1, hall⟩
    refine q true H1 s1 ⟨fun _ => hde.mp (List.ext_getElem? fun j => ?_), fun _ => rfl⟩
    by_cases hj : j < es.length
    · exact hall j hj
    · rw [List.getElem?_eq_none (by omega), List.getElem?_eq_none (by omega)]
end
end W8

set_option Elab.async false
set_option linter.all false
set_option maxRecDepth 100000
set_option maxHeartbeats 4000000
namespace W8
open PySem L2
abbrev sWord : Stmt := top 22
theorem scWord : FnScope ["state", "letters", "most", "word", "k"] ["state", "letters", "most"] (defScope sWord) := ⟨rfl, rfl, rfl, by decide +kernel, rfl, by decide +kernel, by decide +kernel⟩
def spWord (K : PySem.W.Frag) : Sp := fun vs H Q _ => ∃ (a : Addr) (al : List Nat) (m : Int), vs = [.ref a, .str (S al), .int m] ∧ al ≠ [] ∧ al.length ≤ 100 ∧ 0 ≤ m ∧ m ≤ 900 ∧ ∃ p, StOk K H a p ∧ ∀ u H', (u.length : Int) ≤ m → (∀ c ∈ u, c ∈ al) → But a H H' → StOk K H' a p → Q (.str (S u)) H'
section
variable {P : Program} {w : World} {K : PySem.W.Frag} {mg : Str → Option Value} {base : Heap}
theorem ok_word {f : Addr} {fd : FuncData} (F : Fun K "_law_word" "_law_word" sWord f fd) (tr : mg "range" = none) (tl : mg "len" = none) (c_law_draw : Cal P w K mg base "_law_draw" 1 ["state", "many"] (spDraw K)) : FnOk P w K mg base CX0 2 f fd ["state", "letters", "most"] (spWord K) := by
  refine F.ok scWord (fun vs H Q E h => ?_) (fun cdv A outer s H vs Q E hr h => ?_)
  · obtain ⟨a, al, m, rfl, _⟩ := h
    rfl
  obtain ⟨a, al, m, rfl, hne, hal, m0, m9, p, S0, q⟩ := h
  have hal1 : 1 ≤ al.length := List.length_pos_iff.mpr hne
  refine ⟨_, (pss_cons (ps_set (i := 3) scWord.nd rfl (Or.inl rfl) pe_str)
    (pss_cons (ps_for PassesOwn.never rfl (pi_range1 (by rfl) tr (pa_cons (pcall c_law_draw hr (pa_cons (pv 0) (pa_cons (pe_op op_add (pv 2) pe_int) pa_nil))) pa_nil)) (pg_name (i := 4) scWord.nd rfl (Or.inl rfl))
      (pss_one (ps_set (i := 3) scWord.nd rfl (Or.inl rfl) (pe_op op_add_str (pv 3) (pixS (pv 1) (pcall c_law_draw hr (pa_cons (pv 0) (pa_cons (pB1 call_len_str tl (pv 1)) pa_nil))))))))
    (pss_one (ps_ret (pv 3))))), ?_⟩
  refine ⟨_, rfl, _, rfl, _, _, rfl, rfl, a, m + 1, rfl, by omega, by omega, _, S0, fun n H1 n0 n1 B1 S1 => ?_⟩
  refine ⟨_, rfl, by omega, by omega, ?_⟩
  refine for_range (lo := 0) (n := n.toNat) (fun i σ H' => ∃ (u : List Nat) (k : Option V), σ = [some (.ref a), some (.str (S al)), some (.int m), some (.str (S u)), k] ∧ u.length = i ∧ (∀ c ∈ u, c ∈ al) ∧ But a H H' ∧ StOk K H' a p) ⟨[], none, rfl, rfl, (fun c h => nomatch h), B1, S1⟩ ?_ ?_
  · rintro i σ H2 hi ⟨u, k, rfl, hu, hm, B2, S2⟩
    refine ⟨_, rfl, _, rfl, _, rfl, _, rfl, _, rfl, by rw [S_len]; exact sz (by omega), a, (al.length : Int), rfl, by omega, by omega, _, S2, fun r H3 r0 r1 B3 S3 => ?_⟩
    obtain ⟨c, hc, _, hat⟩ := at_S (w := al) r0 r1
    refine ⟨_, _, c, rfl, rfl, by rw [S_len]; exact sz (by omega), hat, _, _, rfl, rfl, by rw [S_len]; exact sz (by show u.length + 1 ≤ 100000; omega), ?_⟩
    refine ⟨u ++ [c], _, by rw [S_one, S_app] <;> rfl, by rw [List.length_append, hu] <;> rfl, fun d hd => ?_, B2.trans B3, S3⟩
    rcases List.mem_append.mp hd with e | e
    · exact hm d e
    · rw [List.mem_singleton.mp e]
      exact hc
  · rintro σ H2 ⟨u, k, rfl, hu, hm, B2, S2⟩
    exact ⟨_, rfl, q u H2 (by omega) hm B2 S2⟩
end
end W8

set_option Elab.async false
set_option linter.all false
set_option maxRecDepth 100000
set_option maxHeartbeats 4000000
namespace W8
open PySem L2 GM
theorem StOk.same {K : PySem.W.Frag} {H H' : Hp} {a p : Addr} (s : Same H H') (h : StOk K H a p) : StOk K H' a p := by
  obtain ⟨cs, i, v, l, m, x⟩ := h
  exact ⟨cs, i, v, l, m, s _ _ x.h, s _ _ x.c, x.ne, x.b, x.n, x.i0, x.v0, x.m0⟩
theorem But.same {a : Addr} {H H1 H2 : Hp} (b : But a H H1) (s : Same H1 H2) : But a H H2 := b.trans (But.of s)
theorem foldl_rep (c : Array Nat) : ∀ (n : Nat) (x : Array Nat), (List.replicate n c).foldl (· ++ ·) x = x ++ (rep c.toList n).toArray
  | 0, x => by simp [rep]
  | n + 1, x => by
    rw [List.replicate_succ, List.foldl_cons, foldl_rep c n]
    show _ = x ++ (c.toList ++ rep c.toList n).toArray
    rw [Array.append_assoc]
    congr 1
    rw [← List.append_toArray]
theorem rep_one (v : List Nat) : rep v 1 = v := by show v ++ [] = v; rw [List.append_nil]
/-- a text so many times -/
theorem mul_S (v : List Nat) (n : Nat) : Txt.mul (S v) (n : Int) = S (rep v n) := by
  unfold Txt.mul
  by_cases h : (n : Int) < 1
  · have e : n = 0 := by omega
    subst e
    rw [if_pos h]
    rfl
  rw [if_neg h]
  by_cases h2 : (((n : Int) == 1) || (S v).length == 0) = true
  · rw [if_pos h2]
    rcases Bool.or_eq_true _ _ ▸ h2 with e | e
    · have : n = 1 := by have := beq_iff_eq.mp e; omega
      subst this
      rw [rep_one]
    · have e2 : v.length = 0 := by rw [← S_len]; exact beq_iff_eq.mp e
      have e3 : v = [] := List.length_eq_zero_iff.mp e2
      subst e3
      rw [rep_nil]
  · rw [if_neg h2, Int.toNat_natCast, foldl_rep]
    show (⟨#[] ++ (rep v n).toArray⟩ : Str) = S (rep v n)
    rw [Array.empty_append]
    rfl
theorem rep_mem {v : List Nat} {c : Nat} : ∀ {n : Nat}, c ∈ rep v n → c ∈ v
  | 0, h => by cases h
  | n + 1, h => by
    rcases List.mem_append.mp (show c ∈ v ++ rep v n from h) with e | e
    · exact e
    · exact rep_mem e
theorem pow_int {r : Nat} (h : r ≤ 3) : ((1 : Int) * 2 ^ ((r : Int)).toNat - 1) = ((2 ^ r - 1 : Nat) : Int) := by
  rcases r with _ | _ | _ | _ | r <;> first | rfl | omega
theorem pow_le {r : Nat} (h : r ≤ 3) : 2 ^ r - 1 ≤ 7 := by
  rcases r with _ | _ | _ | _ | r <;> first | decide | omega
theorem alphOk_mem {al : List Nat} {u v : List Nat} (h1 : ∀ c ∈ u, c ∈ al) (h2 : ∀ c ∈ v, c ∈ al) : ∀ c ∈ u ++ v, c ∈ al := fun c h => (List.mem_append.mp h).elim (h1 c) (h2 c)
theorem addS {u v : List Nat} {H : Hp} {Q : VK} (h : u.length + v.length ≤ 100000) (q : Q (.str (S (u ++ v))) H) : ∃ i j, V.str (S u) = .str i ∧ V.str (S v) = .str j ∧ i.length + j.length ≤ sizeLine ∧ Q (.str (i ++ j)) H :=
  ⟨S u, S v, rfl, rfl, sz h, by rw [S_app]; exact q⟩
theorem mulS {u : List Nat} {n : Nat} {k : Int} {H : Hp} {Q : VK} (e : k = (n : Int)) (h : u.length ≤ 1000) (hn : n ≤ 1000) (q : Q (.str (S (rep u n))) H) : rMulS (.str (S u)) (.int k) H Q :=
  ⟨S u, k, rfl, rfl, h, by omega, by omega, by rw [e, mul_S]; exact q⟩
/-- w[:k] -/
theorem cut_to (w : List Nat) (k : Nat) : cutS (S w) none (some (k : Int)) = S (w.take k) := by
  unfold cutS
  rw [HT.sIx_none, HT.sIx_nat, List.drop_zero, Nat.sub_zero]
  show S (w.take (min k w.length)) = S (w.take k)
  congr 1
  by_cases h : k ≤ w.length
  · rw [Nat.min_eq_left h]
  · rw [Nat.min_eq_right (by omega), List.take_of_length_le (Nat.le_refl _), List.take_of_length_le (by omega)]
/-- [x, y] compared with [b, b'] -/
theorem dp_two {K : PySem.W.Frag} {H : Hp} {l : Addr} {a b : Bool} (h : H l = some (.lst [.bl a, .bl b])) : Dp K H (.ref l) (.list [.bool a, .bool b]) := .lst (SqL.of h) (.cons (.bl a) (.cons (.bl b) .nil))
end W8

set_option Elab.async false
set_option linter.all false
set_option maxRecDepth 100000
set_option maxHeartbeats 4000000
namespace W8
open PySem L2 NK GM
/-- a def of a class that may be called -/
structure MCal (P : Program) (w : World) (K : PySem.W.Frag) (mg : Str → Option Value) (base : Heap) (C : Addr) (m : Str) (k : Nat) (ps : List Str) (sp : Sp) : Prop where
  ex : ∃ (f : Addr) (fd : FuncData), FnOk P w K mg base CX0 k f fd ps sp ∧ Meth K C m f ∧ Binds K fd ps []
/-- the word of a side -/
def wd (u v : List Nat) (s : Nat) : List Nat := if s = 0 then u else v
/-- a pair, the place of the first word first -/
def mkp (s p q : Nat) : Nat × Nat := if s = 0 then (p, q) else (q, p)
theorem wd_at (u v : List Nat) {s : Nat} (h : s ≤ 1) : atI [V.str (S u), V.str (S v)] (s : Int) = some (.str (S (wd u v s))) := by
  rcases s with _ | _ | s
  · rfl
  · rfl
  · omega
theorem wd_at1 (u v : List Nat) {s : Nat} (h : s ≤ 1) : atI [V.str (S u), V.str (S v)] (1 - (s : Int)) = some (.str (S (wd u v (1 - s)))) := by
  rcases s with _ | _ | s
  · rfl
  · rfl
  · omega
theorem wd_len {u v : List Nat} {n s : Nat} (hu : u.length ≤ n) (hv : v.length ≤ n) : (wd u v s).length ≤ n := by
  unfold wd
  split <;> assumption
abbrev sCheck_place : Stmt := top 12
theorem scCheck_place : FnScope ["place", "word"] ["place", "word"] (defScope sCheck_place) := ⟨rfl, rfl, rfl, by decide +kernel, rfl, by decide +kernel, by decide +kernel⟩
def spCheck_place : Sp := fun vs H Q _ => ∃ (x : Nat) (z : List Nat), vs = [.int (x : Int), .str (S z)] ∧ x ≤ z.length ∧ z.length ≤ 1000 ∧ Q .non H
abbrev sChoice : Stmt := inClass (top 16) 3
theorem scChoice : FnScope ["self", "side", "place"] ["self", "side", "place"] (defScope sChoice) := ⟨rfl, rfl, rfl, by decide +kernel, rfl, by decide +kernel, by decide +kernel⟩
def spChoice (C : Addr) : Sp := fun vs H Q _ => ∃ (p dx wt pt : Addr) (al u v : List Nat) (r s x : Nat) (prs : Prs) (qs : List Addr), vs = [.ref p, .int (s : Int), .int (x : Int)] ∧ GameSt H p C dx wt pt al u v r prs qs ∧ u.length ≤ 60 ∧ v.length ≤ 60 ∧ s ≤ 1 ∧ prs.length < r ∧ x ≤ (wd u v s).length ∧
  ∀ H', Same H H' → Q .non H'
abbrev sPlay : Stmt := inClass (top 16) 4
theorem scPlay : FnScope ["self", "side", "place", "answer"] ["self", "side", "place", "answer"] (defScope sPlay) := ⟨rfl, rfl, rfl, by decide +kernel, rfl, by decide +kernel, by decide +kernel⟩
def spPlay (C : Addr) : Sp := fun vs H Q _ => ∃ (p dx wt pt : Addr) (al u v : List Nat) (r s x y : Nat) (prs : Prs) (qs : List Addr), vs = [.ref p, .int (s : Int), .int (x : Int), .int (y : Int)] ∧ GameSt H p C dx wt pt al u v r prs qs ∧ u.length ≤ 60 ∧ v.length ≤ 60 ∧ r ≤ 3 ∧ s ≤ 1 ∧ prs.length < r ∧
  x ≤ (wd u v s).length ∧ y ≤ (wd u v (1 - s)).length ∧ ∀ H' pt' qs', But p H H' → GameSt H' p C dx wt pt' al u v r (prs ++ [mkp s x y]) qs' → Q .non H'
abbrev sBack : Stmt := inClass (top 16) 5
theorem scBack : FnScope ["self"] ["self"] (defScope sBack) := ⟨rfl, rfl, rfl, by decide +kernel, rfl, by decide +kernel, by decide +kernel⟩
def spBack (C : Addr) : Sp := fun vs H Q _ => ∃ (p dx wt pt : Addr) (al u v : List Nat) (r : Nat) (prs : Prs) (qs : List Addr), vs = [.ref p] ∧ GameSt H p C dx wt pt al u v r prs qs ∧
  (prs = [] → Q (.bl false) H) ∧ (prs ≠ [] → ∀ H' pt' qs', But p H H' → GameSt H' p C dx wt pt' al u v r prs.dropLast qs' → Q (.bl true) H')
theorem int_ne' {a b : Int} (h : a ≠ b) : decide (V.int a = V.int b) = false := decide_eq_false fun e => h (by injection e)
theorem paired_snoc {α β : Type} {F : α → β → Prop} : ∀ {xs : List α} {ys : List β} {x : α} {y : β}, Paired F xs ys → F x y → Paired F (xs ++ [x]) (ys ++ [y])
  | [], [], _, _, .nil, h => .cons h .nil
  | _ :: _, _ :: _, _, _, .cons g t, h => .cons g (paired_snoc t h)
theorem paired_init {α β : Type} {F : α → β → Prop} : ∀ {xs : List α} {ys : List β}, Paired F xs ys → Paired F xs.dropLast ys.dropLast
  | [], [], .nil => .nil
  | [_], [_], .cons _ .nil => .nil
  | _ :: _ :: _, _ :: _ :: _, .cons g (.cons h t) => .cons g (paired_init (.cons h t))
theorem putF_pairs (l w r p q : V) : putF "pairs" q (gf l w r p) = gf l w r q := by
  show (if ("letters" : Str) = "pairs" then _ else _ :: (if ("words" : Str) = "pairs" then _ else _ :: (if ("rounds" : Str) = "pairs" then _ else _ :: (if ("pairs" : Str) = "pairs" then _ else _)))) = _
  rw [if_neg (by decide +kernel), if_neg (by decide +kernel), if_neg (by decide +kernel), if_pos rfl]
  rfl
theorem cut_last (xs : List V) (h : xs ≠ []) : cutV xs none (some (-1)) = xs.dropLast := by
  have hl := List.length_pos_iff.mpr h
  unfold cutV
  rw [HT.sIx_none, List.drop_zero, Nat.sub_zero]
  have e : HT.sIx xs.length xs.length (some (-1)) = xs.length - 1 := by
    unfold HT.sIx
    simp
    omega
  rw [e, List.dropLast_eq_take]
theorem catA2 {K : PySem.W.Frag} {H : Hp} {a t : Addr} {xs : List V} {y : V} {Q : VK} (ha : H a = some (.tup xs)) (ht : H t = some (.tup [y])) (hn : xs.length ≤ 1000) (q : ∀ b H', Same H H' → H' b = some (.tup (xs ++ [y])) → Q (.ref b) H') : rCatA K (.ref a) (.ref t) H Q := by
  refine ⟨a, t, xs, [y], rfl, rfl, SqT.of ha, SqT.of ht, sz (by show xs.length + 1 ≤ 100000; omega), fun e => ?_, fun _ e => (nomatch e), fun _ _ p hp => ?_⟩
  · subst e
    exact q t H (Same.refl H) ht
  · exact q p _ (same_new hp _) upd_same
section
variable {P : Program} {w : World} {K : PySem.W.Frag} {mg : Str → Option Value} {base : Heap}
theorem ok_check_place {f : Addr} {fd : FuncData} (F : Fun K "check_place" "check_place" sCheck_place f fd) (tl : mg "len" = none) : FnOk P w K mg base CX0 1 f fd ["place", "word"] spCheck_place := by
  refine F.ok scCheck_place (fun vs H Q E h => ?_) (fun cdv A outer s H vs Q E hr h => ?_)
  · obtain ⟨x, z, rfl, _⟩ := h
    rfl
  obtain ⟨x, z, rfl, hx, hz, q⟩ := h
  refine ⟨_, (pss_one (ps_if (pt_not (pt_chain op_le op_le pe_int (pv 0) (pB1 call_len_str tl (pv 1))))
      (pss_one ps_never)
      pss_nil)), ?_⟩
  refine ⟨_, rfl, _, _, rfl, rfl, _, rfl, ?_⟩
  refine ite2 (fun _ => ?_) (fun e => absurd (decide_eq_true (by omega)) e)
  refine ⟨_, rfl, _, rfl, sz (by rw [S_len]; omega), _, _, rfl, rfl, _, rfl, ?_⟩
  have e : decide ((x : Int) ≤ ((S z).length : Int)) = true := decide_eq_true (by rw [S_len]; omega)
  rw [e]
  exact ite2 (fun z => (nomatch z)) (fun _ => q)
theorem ok_choice {f C : Addr} {fd : FuncData} (F : Fun K "check_choice" "Game.check_choice" sChoice f fd) (T : GameT K mg C) (tl : mg "len" = none) (cp : Cal P w K mg base "check_place" 1 ["place", "word"] spCheck_place) : FnOk P w K mg base CX0 2 f fd ["self", "side", "place"] (spChoice C) := by
  refine F.ok scChoice (fun vs H Q E h => ?_) (fun cdv A outer s H vs Q E hr h => ?_)
  · obtain ⟨p, dx, wt, pt, al, u, v, r, s, x, prs, qs, rfl, _⟩ := h
    rfl
  obtain ⟨p, dx, wt, pt, al, u, v, r, s, x, prs, qs, rfl, G, hu, hv, hs, hp, hx, q⟩ := h
  have hql : qs.length = prs.length := Paired.length G.q
  refine ⟨_, (pss_cons (ps_if (pt_cmpR op_eq (pB1 call_len_seq tl (pe_fld (pv 0) rfl)) (pe_fld (pv 0) rfl) (nomark _))
      (pss_one ps_never)
      pss_nil)
    (pss_cons (ps_if (pt_cmpR op_notIn_seq (pv 1) (pe_tup (pa_cons pe_int (pa_cons pe_int pa_nil))) rfl)
      (pss_one ps_never)
      pss_nil)
    (pss_one (ps_expr (pcall cp hr (pa_cons (pv 2) (pa_cons (pixT (pe_fld (pv 0) rfl) (pv 1)) pa_nil))))))), ?_⟩
  refine ⟨_, rfl, p, C, dx, _, _, rfl, G.o, T.cl, T.nP, gf_pairs _ _ _ _, pt, _, rfl, .inr (SqT.of G.t), _, rfl, p, C, dx, _, _, rfl, G.o, T.cl, T.nR, gf_rounds _ _ _ _, rfl, _, rfl, ?_⟩
  have e0 : decide (V.int (((qs.map V.ref).length : Nat) : Int) = V.int (r : Int)) = false := int_ne' (by rw [List.length_map]; omega)
  rw [e0]
  refine ite2 (fun z => (nomatch z)) (fun _ => ?_)
  refine ⟨_, rfl, by show 2 ≤ sizeLine; decide, fun t ht => ?_⟩
  have s1 := same_new ht (.tup [.int 0, .int 1])
  refine ⟨t, _, rfl, .inr (SqT.of upd_same), rfl, rfl, _, rfl, ?_⟩
  have e1 : (if true = true then !inV (.int (s : Int)) [.int 0, .int 1] else inV (.int (s : Int)) [.int 0, .int 1]) = false := by
    rcases s with _ | _ | s
    · rfl
    · rfl
    · omega
  rw [e1]
  refine ite2 (fun z => (nomatch z)) (fun _ => ?_)
  have G1 := G.mono s1
  refine ⟨_, rfl, _, rfl, p, C, dx, _, _, rfl, G1.o, T.cl, T.nW, gf_words _ _ _ _, _, rfl, wt, _, _, _, rfl, rfl, SqT.of G1.w, wd_at u v hs, x, wd u v s, rfl, hx, Nat.le_trans (wd_len hu hv) (by decide), q _ s1⟩
theorem ok_play {f C : Addr} {fd : FuncData} (F : Fun K "play" "Game.play" sPlay f fd) (T : GameT K mg C) (cp : Cal P w K mg base "check_place" 1 ["place", "word"] spCheck_place) (cc : MCal P w K mg base C "check_choice" 2 ["self", "side", "place"] (spChoice C)) : FnOk P w K mg base CX0 3 f fd ["self", "side", "place", "answer"] (spPlay C) := by
  refine F.ok scPlay (fun vs H Q E h => ?_) (fun cdv A outer s H vs Q E hr h => ?_)
  · obtain ⟨p, dx, wt, pt, al, u, v, r, s, x, y, prs, qs, rfl, _⟩ := h
    rfl
  obtain ⟨p, dx, wt, pt, al, u, v, r, s, x, y, prs, qs, rfl, G, hu, hv, hr3, hs, hp, hx, hy, q⟩ := h
  have hql : qs.length = prs.length := Paired.length G.q
  obtain ⟨f1, fd1, G1, m1, b1⟩ := cc.ex
  refine ⟨_, (pss_cons (ps_expr (pe_meth (pv 0) T.cl m1 G1 (hr.mono (by decide)) b1 .nil pass0 (pa_cons (pv 1) (pa_cons (pv 2) pa_nil))))
    (pss_cons (ps_expr (pcall cp hr (pa_cons (pv 3) (pa_cons (pixT (pe_fld (pv 0) rfl) (pe_op op_sub pe_int (pv 1))) pa_nil))))
    (pss_one (ps_if (pt_cmpR op_eq (pv 1) pe_int (nomark _))
      (pss_one (ps_fld (pv 0) (pe_op (r := rCatA K) op_catA (pe_fld (pv 0) rfl) (pe_tup (pa_cons (pe_tup (pa_cons (pv 2) (pa_cons (pv 3) pa_nil))) pa_nil))) rfl))
      (pss_one (ps_fld (pv 0) (pe_op (r := rCatA K) op_catA (pe_fld (pv 0) rfl) (pe_tup (pa_cons (pe_tup (pa_cons (pv 3) (pa_cons (pv 2) pa_nil))) pa_nil))) rfl)))))), ?_⟩
  refine ⟨_, rfl, p, dx, _, rfl, G.o, gf_no _ _ _ _ (by decide +kernel), _, rfl, _, rfl, p, dx, wt, pt, al, u, v, r, s, x, prs, qs, rfl, G, hu, hv, hs, hp, hx, fun H1 s1 => ?_⟩
  have G1 := G.mono s1
  refine ⟨_, rfl, _, rfl, p, C, dx, _, _, rfl, G1.o, T.cl, T.nW, gf_words _ _ _ _, _, rfl, _, _, rfl, rfl, wt, _, _, _, rfl, rfl, SqT.of G1.w, wd_at1 u v hs, y, wd u v (1 - s), rfl, hy, Nat.le_trans (wd_len hu hv) (by decide), ?_⟩
  have fin : ∀ (a b : Nat) (tp tq : Addr) (Q2 : VK), H1 tp = none → upd H1 tp (.tup [natV a, natV b]) tq = none → (a, b) = mkp s x y →
      (∀ c H4, H4 p = some (.ins C dx (gf (.str (S al)) (.ref wt) (.int (r : Int)) (.ref pt))) → (∀ Q3 : Prop, (∀ H' pt' qs', H' = upd H4 p (.ins C dx (gf (.str (S al)) (.ref wt) (.int (r : Int)) (.ref c))) → But p H H' → GameSt H' p C dx wt pt' al u v r (prs ++ [mkp s x y]) qs' → Q3) → Q3) → Q2 (.ref c) H4) →
      rCatA K (.ref pt) (.ref tq) (upd (upd H1 tp (.tup [natV a, natV b])) tq (.tup [.ref tp])) Q2 := by
    intro a b tp tq Q2 htp htq hab k
    have s2 := same_new htp (.tup [natV a, natV b])
    have s3 := same_new htq (.tup [.ref tp])
    have G3 := G1.mono (s2.trans s3)
    have nqp : tp ≠ tq := ne_of_none upd_same htq
    have htp3 : (upd (upd H1 tp (.tup [natV a, natV b])) tq (.tup [.ref tp])) tp = some (.tup [natV a, natV b]) := s3 _ _ upd_same
    refine catA2 G3.t upd_same (by rw [List.length_map]; omega) fun c H4 s4 hc => ?_
    have G4 := G3.mono s4
    have htp4 := s4 _ _ htp3
    refine k c H4 G4.o fun Q3 kk => ?_
    have ncp : c ≠ p := ne_of hc G4.o (by intro z; cases z)
    refine kk _ c (qs ++ [tp]) rfl (fun b o nb ho => by rw [upd_ne nb]; exact s4 _ _ (s3 _ _ (s2 _ _ (s1 _ _ ho)))) ⟨upd_same, ?_, ?_, ?_⟩
    · rw [upd_ne (ne_of G4.w G4.o (by intro z; cases z))]
      exact G4.w
    · rw [upd_ne ncp, List.map_append]
      exact hc
    · refine paired_snoc (Paired.mapP G4.q fun a b h => ?_) ?_
      · rw [upd_ne (ne_of h G4.o (by intro z; cases z))]
        exact h
      · rw [upd_ne (ne_of htp4 G4.o (by intro z; cases z)), ← hab]
        exact htp4
  refine ⟨_, rfl, rfl, _, rfl, ?_⟩
  refine ite2 (fun e => ?_) (fun e => ?_)
  · have s0 : s = 0 := by have := int_eq e; omega
    refine ⟨_, rfl, p, C, dx, _, _, rfl, G1.o, T.cl, T.nP, gf_pairs _ _ _ _, _, rfl, _, rfl, by show 2 ≤ sizeLine; decide, fun tp htp => ⟨by show 1 ≤ sizeLine; decide, fun tq htq => ?_⟩⟩
    refine fin x y tp tq _ htp htq (by unfold mkp; rw [if_pos s0]) fun c H4 h4 kk => ?_
    refine ⟨_, rfl, p, C, dx, _, rfl, h4, T.cl, T.nP, by show 4 < 1000; decide, ?_⟩
    rw [putF_pairs]
    exact kk _ fun H' pt' qs' e b g => e ▸ q H' pt' qs' b g
  · have s0 : s ≠ 0 := fun z => e (decide_eq_true (by rw [z]; rfl))
    refine ⟨_, rfl, p, C, dx, _, _, rfl, G1.o, T.cl, T.nP, gf_pairs _ _ _ _, _, rfl, _, rfl, by show 2 ≤ sizeLine; decide, fun tp htp => ⟨by show 1 ≤ sizeLine; decide, fun tq htq => ?_⟩⟩
    refine fin y x tp tq _ htp htq (by unfold mkp; rw [if_neg s0]) fun c H4 h4 kk => ?_
    refine ⟨_, rfl, p, C, dx, _, rfl, h4, T.cl, T.nP, by show 4 < 1000; decide, ?_⟩
    rw [putF_pairs]
    exact kk _ fun H' pt' qs' e b g => e ▸ q H' pt' qs' b g
theorem ok_back {f C : Addr} {fd : FuncData} (F : Fun K "back" "Game.back" sBack f fd) (T : GameT K mg C) (tl : mg "len" = none) : FnOk P w K mg base CX0 1 f fd ["self"] (spBack C) := by
  refine F.ok scBack (fun vs H Q E h => ?_) (fun cdv A outer s H vs Q E hr h => ?_)
  · obtain ⟨p, dx, wt, pt, al, u, v, r, prs, qs, rfl, _⟩ := h
    rfl
  obtain ⟨p, dx, wt, pt, al, u, v, r, prs, qs, rfl, G, q0, q1⟩ := h
  have hql : qs.length = prs.length := Paired.length G.q
  refine ⟨_, (pss_cons (ps_if (pt_cmpR op_eq (pB1 call_len_seq tl (pe_fld (pv 0) rfl)) pe_int (nomark _))
      (pss_one (ps_ret pe_bl))
      pss_nil)
    (pss_cons (ps_fld (pv 0) (pe_slice sl_tup (pe_fld (pv 0) rfl) po_none (po_some (pe_un un_neg pe_int))) rfl)
    (pss_one (ps_ret pe_bl)))), ?_⟩
  refine ⟨_, rfl, p, C, dx, _, _, rfl, G.o, T.cl, T.nP, gf_pairs _ _ _ _, pt, _, rfl, .inr (SqT.of G.t), rfl, _, rfl, ?_⟩
  refine ite2 (fun e => ?_) (fun e => ?_)
  · have e1 := int_eq e
    rw [List.length_map] at e1
    exact q0 (List.length_eq_zero_iff.mp (by omega))
  · have hne : prs ≠ [] := fun z => e (decide_eq_true (by rw [List.length_map, hql, z]; rfl))
    have hqne : qs.map V.ref ≠ [] := fun z => hne (List.length_eq_zero_iff.mp (by rw [← hql, ← List.length_map (f := V.ref), z]; rfl))
    have hl := List.length_pos_iff.mpr hqne
    refine ⟨_, rfl, p, C, dx, _, _, rfl, G.o, T.cl, T.nP, gf_pairs _ _ _ _, _, rfl, _, rfl, pt, _, rfl, SqT.of G.t, ?_, fun c hc => ?_⟩
    · rintro ⟨_, z⟩
      unfold HT.sIx at z
      simp at z
      rw [List.length_map] at hl
      omega
    have ecut : cutV (qs.map V.ref) none (some (-1)) = qs.dropLast.map V.ref := by rw [cut_last _ hqne, List.map_dropLast]
    have s1 := same_new hc (.tup (cutV (qs.map V.ref) none (some (-1))))
    have G1 := G.mono s1
    refine ⟨_, rfl, p, C, dx, _, rfl, G1.o, T.cl, T.nP, by show 4 < 1000; decide, ?_⟩
    rw [putF_pairs]
    have npc : c ≠ p := ne_of upd_same G1.o (by intro z; cases z)
    refine q1 hne _ c qs.dropLast (fun b o nb ho => by rw [upd_ne nb]; exact s1 _ _ ho) ⟨upd_same, ?_, ?_, ?_⟩
    · rw [upd_ne (ne_of G1.w G1.o (by intro z; cases z))]
      exact G1.w
    · rw [upd_ne npc, upd_same, ecut]
    · refine Paired.mapP (paired_init G1.q) fun a b h => ?_
      rw [upd_ne (ne_of h G1.o (by intro z; cases z))]
      exact h
end
end W8

set_option Elab.async false
set_option linter.all false
set_option maxRecDepth 100000
set_option maxHeartbeats 4000000
namespace W8
open PySem L2 NK GM
abbrev sKinds : Stmt := inClass (top 16) 7
theorem scKinds : FnScope ["self", "side", "numbers", "left", "chosen", "word", "place", "pair"] ["self", "side", "numbers"] (defScope sKinds) := ⟨rfl, rfl, rfl, by decide +kernel, rfl, by decide +kernel, by decide +kernel⟩
def KindsOk (D : List (List Itm)) (n : Nat) (u v : List Nat) (prs : Prs) (s : Nat) (ks : List Nat) : Prop := ks.length = (wd u v s).length + 1 ∧ ∀ a k, ks[a]? = some k → Num D n (wd u v s) (prs.map (sel s) ++ [a]) k
theorem KindsOk.mono {D D' : List (List Itm)} (h : ∃ t, D' = D ++ t) {n : Nat} {u v : List Nat} {prs : Prs} {s : Nat} {ks : List Nat} (g : KindsOk D n u v prs s ks) : KindsOk D' n u v prs s ks := ⟨g.1, fun a k e => (g.2 a k e).mono h⟩
def spKinds (P : Program) (w : World) (C : Addr) : Sp := fun vs H Q _ => ∃ (p dx wt pt : Addr) (al u v : List Nat) (r s n : Nat) (prs : Prs) (qs : List Addr) (d : Addr) (D : List (List Itm)), vs = [.ref p, .int (s : Int), .ref d] ∧ GameSt H p C dx wt pt al u v r prs qs ∧ u.length ≤ 60 ∧ v.length ≤ 60 ∧ r ≤ 3 ∧ s ≤ 1 ∧
  prs.length + n + 1 = r ∧ Inb u.length v.length prs ∧ NumD P w H d D ∧ D.length ≤ 500000 ∧
  ∀ L H' D' ks, But d H H' → NumD P w H' d D' → (∃ t, D' = D ++ t) → D'.length ≤ D.length + 400000 → H' L = some (.lst (ks.map natV)) → KindsOk D' n u v prs s ks → Q (.ref L) H'
theorem sel_le {u v : List Nat} {prs : Prs} (hin : Inb u.length v.length prs) {s : Nat} {y : Nat} (hy : y ∈ prs.map (sel s)) : y ≤ (wd u v s).length := by
  obtain ⟨z, hz, rfl⟩ := List.mem_map.mp hy
  have := hin z hz
  unfold sel wd
  split
  · exact this.1
  · exact this.2
theorem sel_at {s : Nat} (h : s ≤ 1) (z : Nat × Nat) : atI [natV z.1, natV z.2] (s : Int) = some (natV (sel s z)) := by
  rcases s with _ | _ | s
  · rfl
  · rfl
  · omega
/-- the second word's number is the first word's, exactly if the pair may be added -/
theorem kinds_iff {D : List (List Itm)} (nd : D.Nodup) {n : Nat} {u v : List Nat} {prs : Prs} {s x y j k : Nat} {ks js : List Nat} (hin : Inb u.length v.length prs) (hs : s ≤ 1) (g1 : KindsOk D n u v prs s ks) (g2 : KindsOk D n u v prs (1 - s) js) (hk : ks[x]? = some k) (hj : js[y]? = some j) :
    j = k ↔ Win n u v (prs ++ [mkp s x y]) := by
  have n1 := g1.2 x k hk
  have n2 := g2.2 y j hj
  have lx : x < (wd u v s).length + 1 := by rw [← g1.1]; exact (List.getElem?_eq_some_iff.mp hk).1
  have ly : y < (wd u v (1 - s)).length + 1 := by rw [← g2.1]; exact (List.getElem?_eq_some_iff.mp hj).1
  have hin2 : ∀ z : Nat × Nat, z.1 ≤ u.length → z.2 ≤ v.length → Inb u.length v.length (prs ++ [z]) := fun z h1 h2 q hq => by
    rcases List.mem_append.mp hq with e | e
    · exact hin q e
    · rw [List.mem_singleton.mp e]; exact ⟨h1, h2⟩
  rcases s with _ | _ | s
  · have q := num_iff nd (r := n) (u := u) (v := v) (Z := prs ++ [(x, y)]) (n := k) (m := j) (hin2 (x, y) (Nat.le_of_lt_succ lx) (Nat.le_of_lt_succ ly)) (by rw [List.map_append]; exact n1) (by rw [List.map_append]; exact n2)
    exact eq_comm.trans q
  · have q := num_iff nd (r := n) (u := u) (v := v) (Z := prs ++ [(y, x)]) (n := j) (m := k) (hin2 (y, x) (Nat.le_of_lt_succ ly) (Nat.le_of_lt_succ lx)) (by rw [List.map_append]; exact n2) (by rw [List.map_append]; exact n1)
    exact q
  · omega
theorem kcost {n : Nat} {m : Nat} (h : m ≤ 60) (hn : n ≤ 2) : (m + 1) * cost n m ≤ 400000 := by
  have := cost_le (r := n + 1) h (by omega)
  have e : cost (n + 1) m = 1 + (m + 1) * cost n m := rfl
  omega
section
variable {P : Program} {w : World} {K : PySem.W.Frag} {mg : Str → Option Value} {base : Heap}
theorem ok_kinds {f C : Addr} {fd : FuncData} (F : Fun K "kinds" "Game.kinds" sKinds f fd) (T : GameT K mg C) (tl : mg "len" = none) (tt : mg "tuple" = none) (tr : mg "range" = none) (ckind : ∀ r : Nat, r ≤ 10 → Cal P w K mg base "kind_number" (3 + r) ["word", "places", "rounds", "numbers"] (spKindN P w K r)) :
    FnOk P w K mg base CX0 6 f fd ["self", "side", "numbers"] (spKinds P w C) := by
  refine F.ok scKinds (fun vs H Q E h => ?_) (fun cdv A outer s H vs Q E hr h => ?_)
  · obtain ⟨p, dx, wt, pt, al, u, v, r, s, n, prs, qs, d, D, rfl, _⟩ := h
    rfl
  obtain ⟨p, dx, wt, pt, al, u, v, r, s, n, prs, qs, d, D, rfl, G, hu, hv, hr3, hs, hrn, hin, hN, hD, q⟩ := h
  have hql : qs.length = prs.length := Paired.length G.q
  have c1 := ckind n (by omega)
  have hk : 3 + n ≤ 5 := by omega
  refine ⟨_, (pss_cons (ps_set (i := 3) scKinds.nd rfl (Or.inr rfl) (pe_op op_sub (pe_op op_sub (pe_fld (pv 0) rfl) (pB1 call_len_seq tl (pe_fld (pv 0) rfl))) pe_int))
    (pss_cons (ps_set (i := 4) scKinds.nd rfl (Or.inr rfl) (pT1 (r := rTupOf K) cr_tupOf tt (pe_lc (wi := iTup K (tFld K (tVar 0) "pairs")) (own := [("pair", 7)]) (g := gName 7) (tt := tYes) rfl scKinds.nd (pi_tup (pe_fld (pv 0) rfl)) (blkOk_by (own := [("pair", 7)]) (N := ["self", "side", "numbers", "left", "chosen", "word", "place", "pair"]) (sc := defScope sKinds) (by decide +kernel)) (fun _ _ _ _ _ => (pg_name (i := 7) scKinds.nd rfl (Or.inl rfl))) (fun _ _ _ _ _ => pts_nil) (fun _ _ _ _ _ => (pe_ix (r := rIxT K) ix_tup (pv 7) (pv 1) (fun _ _ => rfl))))))
    (pss_cons (ps_set (i := 5) scKinds.nd rfl (Or.inr rfl) (pixT (pe_fld (pv 0) rfl) (pv 1)))
    (pss_one (ps_ret (pe_lc (own := [("place", 6)]) (g := gName 6) (tt := tYes) rfl scKinds.nd (pi_range1 (by rfl) tr (pa_cons (pe_op op_add (pB1 call_len_str tl (pv 5)) pe_int) pa_nil)) (blkOk_by (own := [("place", 6)]) (N := ["self", "side", "numbers", "left", "chosen", "word", "place", "pair"]) (sc := defScope sKinds) (by decide +kernel)) (fun _ _ _ _ _ => (pg_name (i := 6) scKinds.nd rfl (Or.inl rfl))) (fun _ _ _ _ _ => pts_nil)
      (fun _ _ _ _ _ => (pcall c1 hr (pa_cons (pv 5) (pa_cons (pe_op (r := rCatA K) op_catA (pv 4) (pe_tup (pa_cons (pv 6) pa_nil))) (pa_cons (pv 3) (pa_cons (pv 2) pa_nil)))) (hk := hk))))))))), ?_⟩
  refine ⟨_, rfl, p, C, dx, _, _, rfl, G.o, T.cl, T.nR, gf_rounds _ _ _ _, _, rfl, p, C, dx, _, _, rfl, G.o, T.cl, T.nP, gf_pairs _ _ _ _, pt, _, rfl, .inr (SqT.of G.t), _, _, rfl, rfl, _, _, rfl, rfl, ?_⟩
  have eleft : (r : Int) - ((qs.map V.ref).length : Int) - 1 = (n : Int) := by rw [List.length_map, hql]; omega
  -- chosen
  refine ⟨_, rfl, p, C, dx, _, _, rfl, G.o, T.cl, T.nP, gf_pairs _ _ _ _, pt, rfl, ⟨_, SqT.of G.t⟩, fun L0 hL0 => ?_⟩
  refine walk_t (xs := qs.map V.ref) (fun j H' => Same H H' ∧ H' L0 = some (.lst (((prs.take j).map (sel s)).map natV))) ⟨same_new hL0 _, upd_same⟩ (fun j H' ⟨s4, _⟩ => SqT.of (s4 _ _ G.t)) ?_ ?_
  · rintro j y H4 hy ⟨s4, hD4⟩
    obtain ⟨qa, hqa, rfl, _⟩ := get_map hy
    obtain ⟨pr, hprj, hq⟩ := paired_get G.q hqa
    refine ⟨rfl, yes ?_⟩
    refine ⟨_, rfl, _, rfl, qa, _, _, _, rfl, rfl, SqT.of (s4 _ _ hq), sel_at hs pr, ?_⟩
    refine ⟨_, hD4, small_lt ?_, same_upd s4 hL0, ?_⟩
    · rw [List.length_map, List.length_map, List.length_take]
      omega
    · rw [upd_same, take_map _ hprj, List.map_append]
      rfl
  rintro H4 ⟨s4, hD4⟩
  rw [List.length_map, hql, List.take_length] at hD4
  refine ⟨L0, _, rfl, .inl ⟨SqL.of hD4, fun ct hct => ?_⟩⟩
  have s5 := s4.trans (same_new hct (.tup ((prs.map (sel s)).map natV)))
  have G5 := G.mono s5
  -- word
  refine ⟨_, rfl, p, C, dx, _, _, rfl, G5.o, T.cl, T.nW, gf_words _ _ _ _, _, rfl, wt, _, _, _, rfl, rfl, SqT.of G5.w, wd_at u v hs, ?_⟩
  have hz := wd_len (s := s) hu hv
  generalize ez : wd u v s = z at hz
  refine ⟨_, rfl, _, rfl, by rw [S_len]; exact sz (by omega), _, _, rfl, rfl, _, rfl, by rw [S_len]; omega, by rw [S_len]; omega, fun L hL => ?_⟩
  have en : (((S z).length : Int) + 1).toNat = z.length + 1 := by rw [S_len]; omega
  rw [en]
  have hct5 : (upd H4 ct (.tup ((prs.map (sel s)).map natV))) ct = some (.tup ((prs.map (sel s)).map natV)) := upd_same
  have hN5 := hN.mono s5
  have dL : d ≠ L := by
    obtain ⟨kvs, h1, _⟩ := hN5
    exact ne_of_none h1 hL
  have dct : ct ≠ d := by
    obtain ⟨kvs, h1, _⟩ := hN5
    exact ne_of hct5 h1 (by intro z; cases z)
  refine walk_r (fun i H' => ∃ (ks : List Nat) (Di : List (List Itm)), ks.length = i ∧ But d (upd H4 ct (.tup ((prs.map (sel s)).map natV))) H' ∧ H' L = some (.lst (ks.map natV)) ∧ NumD P w H' d Di ∧ (∃ t, Di = D ++ t) ∧ Di.length ≤ D.length + i * cost n z.length ∧ ∀ a k, ks[a]? = some k → Num Di n z (prs.map (sel s) ++ [a]) k)
    ⟨[], D, rfl, But.of (same_new hL _), upd_same, hN5.mono (same_new hL _), ⟨[], by simp⟩, by omega, fun a k e => by cases e⟩ ?_ ?_
  · rintro i H6 hi ⟨ks, Di, hk, b6, hL6, hN6, pre, hDi, hnum⟩
    refine ⟨rfl, yes ?_⟩
    refine ⟨_, rfl, _, rfl, _, rfl, by show 1 ≤ sizeLine; decide, fun t ht => ?_⟩
    have s7 := same_new ht (.tup [.int (0 + (i : Int))])
    have hct6 := b6 _ _ dct hct5
    have hi0 : V.int (0 + (i : Int)) = natV i := by unfold natV; rw [Int.zero_add]
    refine catA1 (SqT.of (s7 _ _ hct6)) upd_same (by rw [List.length_map, List.length_map]; omega) fun b H8 s8 hb => ?_
    have kc := kcost hz (n := n) (by omega)
    have hcc : (i + 1) * cost n z.length ≤ (z.length + 1) * cost n z.length := Nat.mul_le_mul_right _ (by omega)
    rw [Nat.succ_mul] at hcc
    refine ⟨_, rfl, _, rfl, z, prs.map (sel s) ++ [i], b, d, Di, congrArg (fun y => [V.str (S z), V.ref b, V.int y, V.ref d]) eleft, by rw [List.map_append, List.map_singleton, ← hi0]; exact hb, fun y hy => ?_, hz, by rw [List.length_append, List.length_singleton, List.length_map]; omega, (hN6.mono s7).mono s8, by omega, fun k D' H9 b9 hN9 pre9 len9 hn9 => ?_⟩
    · rcases List.mem_append.mp hy with e | e
      · rw [← ez]; exact sel_le hin e
      · rw [List.mem_singleton.mp e]; omega
    have hL9 := b9 L _ (Ne.symm dL) (s8 _ _ (s7 _ _ hL6))
    have bb : But d _ H9 := b6.trans ((But.of (s7.trans s8)).trans b9)
    refine ⟨_, hL9, small_lt (by rw [List.length_map]; omega), ks ++ [k], D', by rw [List.length_append, List.length_singleton, hk], fun c o hc1 ho => ?_, ?_, ?_, ?_, by rw [Nat.succ_mul]; omega, fun a k' hak => ?_⟩
    · rw [upd_ne (ne_of_none ho hL)]
      exact bb c o hc1 ho
    · rw [upd_same, List.map_append]
      rfl
    · obtain ⟨kvs, h1, h2, h3, h4, h5⟩ := hN9
      refine ⟨kvs, by rw [upd_ne dL]; exact h1, h2.but (a := L) (fun vs e => by rw [hL9] at e; cases e) (fun c o hc2 ho => by rw [upd_ne hc2]; exact ho), h3, h4, h5⟩
    · obtain ⟨t1, e1⟩ := pre
      obtain ⟨t2, e2⟩ := pre9
      exact ⟨t1 ++ t2, by rw [e2, e1, List.append_assoc]⟩
    · by_cases ha : a < ks.length
      · rw [List.getElem?_append_left ha] at hak
        exact (hnum a k' hak).mono pre9
      · have ha2 := (List.getElem?_eq_some_iff.mp hak).1
        rw [List.length_append, List.length_singleton] at ha2
        have ea : a = ks.length := by omega
        subst ea
        rw [List.getElem?_append_right (Nat.le_refl _)] at hak
        have e : k = k' := by simpa using hak
        rw [← e, hk]
        exact hn9
  · rintro H6 ⟨ks, Di, hk, b6, hL6, hN6, pre, hDi, hnum⟩
    have kc := kcost hz (n := n) (by omega)
    exact q L H6 Di ks ((But.of s5).trans b6) hN6 pre (by omega) hL6 ⟨by rw [ez]; exact hk, by rw [ez]; exact hnum⟩
end
end W8

set_option Elab.async false
set_option linter.all false
set_option maxRecDepth 100000
set_option maxHeartbeats 4000000
namespace W8
open PySem L2 NK GM
def Wins (n : Nat) (u v : List Nat) (prs : Prs) (s x y : Nat) : Prop := Win n u v (prs ++ [mkp s x y])
/-- the least good reply -/
def ReplyIs (n : Nat) (u v : List Nat) (prs : Prs) (s x : Nat) : Option Nat → Prop
  | some y => y ≤ (wd u v (1 - s)).length ∧ Wins n u v prs s x y ∧ ∀ z, z < y → ¬ Wins n u v prs s x z
  | none => ∀ y, y ≤ (wd u v (1 - s)).length → ¬ Wins n u v prs s x y
def optN : Option Nat → V
  | some y => natV y
  | none => .non
/-- the first side and place without a good reply -/
def AttackIs (r : Nat) (u v : List Nat) (prs : Prs) : Option (Nat × Nat) → Prop
  | some (s, x) => prs.length < r ∧ s ≤ 1 ∧ x ≤ (wd u v s).length ∧ (∀ y, y ≤ (wd u v (1 - s)).length → ¬ Wins (r - prs.length - 1) u v prs s x y) ∧
      ∀ s' x', s' ≤ 1 → x' ≤ (wd u v s').length → (s' < s ∨ s' = s ∧ x' < x) → ∃ y, y ≤ (wd u v (1 - s')).length ∧ Wins (r - prs.length - 1) u v prs s' x' y
  | none => prs.length = r ∨ ∀ s x, s ≤ 1 → x ≤ (wd u v s).length → ∃ y, y ≤ (wd u v (1 - s)).length ∧ Wins (r - prs.length - 1) u v prs s x y
def AtkV (H : Hp) : Option (Nat × Nat) → V → Prop
  | some (s, x), y => ∃ t, y = .ref t ∧ H t = some (.tup [natV s, natV x])
  | none, y => y = .non
abbrev sReply : Stmt := inClass (top 16) 8
theorem scReply : FnScope ["self", "side", "place", "numbers", "wanted", "answer", "kind"] ["self", "side", "place"] (defScope sReply) := ⟨rfl, rfl, rfl, by decide +kernel, rfl, by decide +kernel, by decide +kernel⟩
def spReply (C : Addr) : Sp := fun vs H Q _ => ∃ (p dx wt pt : Addr) (al u v : List Nat) (r s x : Nat) (prs : Prs) (qs : List Addr), vs = [.ref p, .int (s : Int), .int (x : Int)] ∧ GameSt H p C dx wt pt al u v r prs qs ∧ u.length ≤ 60 ∧ v.length ≤ 60 ∧ r ≤ 3 ∧ s ≤ 1 ∧ prs.length < r ∧ Inb u.length v.length prs ∧ x ≤ (wd u v s).length ∧
  ∀ o H', Same H H' → ReplyIs (r - prs.length - 1) u v prs s x o → Q (optN o) H'
abbrev sAttack : Stmt := inClass (top 16) 9
theorem scAttack : FnScope ["self", "numbers", "side", "found", "place", "kind"] ["self"] (defScope sAttack) := ⟨rfl, rfl, rfl, by decide +kernel, rfl, by decide +kernel, by decide +kernel⟩
def spAttack (C : Addr) : Sp := fun vs H Q _ => ∃ (p dx wt pt : Addr) (al u v : List Nat) (r : Nat) (prs : Prs) (qs : List Addr), vs = [.ref p] ∧ GameSt H p C dx wt pt al u v r prs qs ∧ u.length ≤ 60 ∧ v.length ≤ 60 ∧ r ≤ 3 ∧ prs.length ≤ r ∧ Inb u.length v.length prs ∧
  ∀ o y H', Same H H' → AttackIs r u v prs o → AtkV H' o y → Q y H'
theorem inV_nat {k : Nat} {ks : List Nat} : inV (natV k) (ks.map natV) = true ↔ k ∈ ks := by
  unfold inV
  rw [List.any_map, List.any_eq_true]
  constructor
  · rintro ⟨x, hx, e⟩
    have e2 : ((x : Int) == (k : Int)) = true := e
    have e3 : (x : Int) = (k : Int) := by simpa using e2
    have : x = k := by omega
    exact this ▸ hx
  · intro h
    exact ⟨k, h, (by show ((k : Int) == (k : Int)) = true; simp)⟩
theorem flat_nat (ks : List Nat) : (ks.map natV).all flatV = true := by
  rw [List.all_map, List.all_eq_true]
  exact fun _ _ => rfl
section
variable {P : Program} {w : World} {K : PySem.W.Frag} {mg : Str → Option Value} {base : Heap}
theorem ok_reply {f C : Addr} {fd : FuncData} (F : Fun K "reply" "Game.reply" sReply f fd) (T : GameT K mg C) (te : mg "enumerate" = none) (cc : MCal P w K mg base C "check_choice" 2 ["self", "side", "place"] (spChoice C)) (ck : MCal P w K mg base C "kinds" 6 ["self", "side", "numbers"] (spKinds P w C)) :
    FnOk P w K mg base CX0 7 f fd ["self", "side", "place"] (spReply C) := by
  refine F.ok scReply (fun vs H Q E h => ?_) (fun cdv A outer s H vs Q E hr h => ?_)
  · obtain ⟨p, dx, wt, pt, al, u, v, r, s, x, prs, qs, rfl, _⟩ := h
    rfl
  obtain ⟨p, dx, wt, pt, al, u, v, r, s, x, prs, qs, rfl, G, hu, hv, hr3, hs, hp, hin, hx, q⟩ := h
  obtain ⟨f1, fd1, G1, m1, b1⟩ := cc.ex
  obtain ⟨f2, fd2, G2, m2, b2⟩ := ck.ex
  refine ⟨_, (pss_cons (ps_expr (pe_meth (pv 0) T.cl m1 G1 (hr.mono (by decide)) b1 .nil pass0 (pa_cons (pv 1) (pa_cons (pv 2) pa_nil))))
    (pss_cons (ps_set (i := 3) scReply.nd rfl (Or.inl rfl) NK.pe_nnew)
    (pss_cons (ps_set (i := 4) scReply.nd rfl (Or.inl rfl) (pixL (pe_meth (pv 0) T.cl m2 G2 hr b2 .nil pass0 (pa_cons (pv 1) (pa_cons (pv 3) pa_nil))) (pv 2)))
    (pss_cons (ps_for PassesOwn.never rfl (pi_enum (by rfl) te (pa_cons (pe_meth (pv 0) T.cl m2 G2 hr b2 .nil pass0 (pa_cons (pe_op op_sub pe_int (pv 1)) (pa_cons (pv 3) pa_nil))) pa_nil)) (pg_tup (by rfl) (pgs_cons (pg_name (i := 5) scReply.nd rfl (Or.inl rfl)) (pgs_cons (pg_name (i := 6) scReply.nd rfl (Or.inl rfl)) pgs_nil)))
      (pss_one (ps_if (pt_cmpR op_eq (pv 6) (pv 4) (nomark _))
        (pss_one (ps_ret (pv 5)))
        pss_nil)))
    (pss_one (ps_ret pe_non)))))), ?_⟩
  refine ⟨_, rfl, p, dx, _, rfl, G.o, gf_no _ _ _ _ (by decide +kernel), _, rfl, _, rfl, p, dx, wt, pt, al, u, v, r, s, x, prs, qs, rfl, G, hu, hv, hs, hp, hx, fun H1 s1 => ?_⟩
  intro d hd
  have sd := s1.trans (same_new hd (ND P w d []))
  have Gd := G.mono sd
  have hNd : NumD P w (upd H1 d (ND P w d [])) d [] := ⟨[], upd_same, (fun _ h => nomatch h), rfl, (fun _ _ e => by cases e), List.nodup_nil⟩
  refine ⟨_, rfl, p, dx, _, rfl, Gd.o, gf_no _ _ _ _ (by decide +kernel), _, rfl, _, rfl, p, dx, wt, pt, al, u, v, r, s, r - prs.length - 1, prs, qs, d, [], rfl, Gd, hu, hv, hr3, hs, by omega, hin, hNd, by decide, fun La H2 D1 ks b2 hN2 pre2 len2 hLa gk => ?_⟩
  obtain ⟨k, hk⟩ : ∃ k, ks[x]? = some k := ⟨ks[x]'(by rw [gk.1]; omega), List.getElem?_eq_getElem _⟩
  refine ⟨_, rfl, La, _, _, _, rfl, rfl, SqL.of hLa, atI_nat (by rw [List.getElem?_map, hk] <;> rfl), ?_⟩
  have S2 : Same H H2 := fun b o e => b2 b o (ne_of_none (s1 _ _ e) hd) (sd b o e)
  have G2 := G.mono S2
  refine ⟨_, rfl, p, dx, _, rfl, G2.o, gf_no _ _ _ _ (by decide +kernel), _, rfl, _, _, rfl, rfl, _, rfl, p, dx, wt, pt, al, u, v, r, 1 - s, r - prs.length - 1, prs, qs, d, D1, ?_, G2, hu, hv, hr3, by omega, by omega, hin, hN2, ?_, fun Lb H3 D2 js b3 hN3 pre3 len3 hLb gj => ?_⟩
  · exact congrArg (fun z => [V.ref p, V.int z, V.ref d]) (by omega)
  · have : ([] : List (List Itm)).length = 0 := rfl
    omega
  have S3 : Same H H3 := fun b o e => b3 b o (ne_of_none (s1 _ _ e) hd) (S2 b o e)
  obtain ⟨kvs, _, _, _, _, nd⟩ := hN3
  have gk2 := gk.mono pre3
  have key : ∀ y j, js[y]? = some j → (j = k ↔ Wins (r - prs.length - 1) u v prs s x y) := fun y j hj => kinds_iff nd hin hs gk2 gj hk hj
  refine ⟨Lb, _, rfl, SqL.of hLb, ?_⟩
  refine L2.for_it (walk_enum (xs := js.map natV)) (fun i σ H' => ∃ (y1 y2 : Option V), σ = [some (.ref p), some (.int (s : Int)), some (.int (x : Int)), some (.ref d), some (natV k), y1, y2] ∧ Same H3 H' ∧ ∀ z, z < i → ¬ Wins (r - prs.length - 1) u v prs s x z) ⟨none, none, rfl, Same.refl H3, fun z hz => by omega⟩ (fun _ _ _ _ ⟨_, _, _, s4, _⟩ => SqL.of (s4 _ _ hLb)) ?_ ?_
  · rintro i y σ H4 H5 hi ⟨y1, y2, rfl, s4, hno⟩ ⟨t, a, b, rfl, ht, rfl, ha, hb⟩
    obtain rfl : a = natV i := (Option.some.inj ha).symm
    obtain ⟨j, hj, rfl, _⟩ := get_map hb
    have s5 := s4.trans (same_new ht (.tup [natV i, natV j]))
    refine ⟨t, _, rfl, SqT.of upd_same, rfl, _, _, rfl, _, _, rfl, rfl, ?_⟩
    refine ⟨_, rfl, _, rfl, rfl, _, rfl, ?_⟩
    have hil : i ≤ (wd u v (1 - s)).length := by
      have := (List.getElem?_eq_some_iff.mp hj).1
      have := gj.1
      omega
    refine ite2 (fun e => ?_) (fun e => ?_)
    · have e1 : j = k := by have := int_eq e; omega
      exact ⟨_, rfl, q (some i) _ (S3.trans s5) ⟨hil, (key i j hj).mp e1, hno⟩⟩
    · refine ⟨_, _, rfl, s5, fun z hz hw => ?_⟩
      by_cases ez : z = i
      · subst ez
        exact e (decide_eq_true (by rw [(key z j hj).mpr hw]))
      · exact hno z (by omega) hw
  · rintro σ H4 ⟨y1, y2, rfl, s4, hno⟩
    rw [List.length_map, gj.1] at hno
    exact q none H4 (S3.trans s4) fun y hy => hno y (by omega)
theorem ok_attack {f C : Addr} {fd : FuncData} (F : Fun K "attack" "Game.attack" sAttack f fd) (T : GameT K mg C) (tl : mg "len" = none) (te : mg "enumerate" = none) (ck : MCal P w K mg base C "kinds" 6 ["self", "side", "numbers"] (spKinds P w C)) :
    FnOk P w K mg base CX0 7 f fd ["self"] (spAttack C) := by
  refine F.ok scAttack (fun vs H Q E h => ?_) (fun cdv A outer s H vs Q E hr h => ?_)
  · obtain ⟨p, dx, wt, pt, al, u, v, r, prs, qs, rfl, _⟩ := h
    rfl
  obtain ⟨p, dx, wt, pt, al, u, v, r, prs, qs, rfl, G, hu, hv, hr3, hp, hin, q⟩ := h
  obtain ⟨f2, fd2, G2, m2, b2⟩ := ck.ex
  have hql : qs.length = prs.length := Paired.length G.q
  refine ⟨_, (pss_cons (ps_if (pt_cmpR op_eq (pB1 call_len_seq tl (pe_fld (pv 0) rfl)) (pe_fld (pv 0) rfl) (nomark _))
      (pss_one (ps_ret pe_non))
      pss_nil)
    (pss_cons (ps_set (i := 1) scAttack.nd rfl (Or.inr rfl) NK.pe_nnew)
    (pss_cons (ps_setLc (i := 3) (own := [("side", 2)]) (g := gName 2) (tt := tYes) rfl scAttack.nd rfl rfl (sw_true rfl rfl rfl (by decide +kernel)) (pi_tup (pe_tup (pa_cons pe_int (pa_cons pe_int pa_nil)))) (blkOk_by (own := [("side", 2)]) (N := ["self", "numbers", "side", "found", "place", "kind"]) (sc := defScope sAttack) (by decide +kernel)) (fun _ _ _ _ _ => (pg_name (i := 2) scAttack.nd rfl (Or.inl rfl))) (fun _ _ _ _ _ => pts_nil) (fun _ _ _ _ _ => (pe_meth (pv 0) T.cl m2 G2 hr b2 .nil pass0 (pa_cons (pv 2) (pa_cons (pv 1) pa_nil)))))
    (pss_cons (ps_for PassesOwn.never rfl (pi_tup (pe_tup (pa_cons pe_int (pa_cons pe_int pa_nil)))) (pg_name (i := 2) scAttack.nd rfl (Or.inl rfl))
      (pss_one (ps_for PassesOwn.never rfl (pi_enum (by rfl) te (pa_cons (pixL (pv 3) (pv 2)) pa_nil)) (pg_tup (by rfl) (pgs_cons (pg_name (i := 4) scAttack.nd rfl (Or.inl rfl)) (pgs_cons (pg_name (i := 5) scAttack.nd rfl (Or.inl rfl)) pgs_nil)))
        (pss_one (ps_if (pt_cmpR op_notIn_seq (pv 5) (pixL (pv 3) (pe_op op_sub pe_int (pv 2))) rfl)
          (pss_one (ps_ret (pe_tup (pa_cons (pv 2) (pa_cons (pv 4) pa_nil)))))
          pss_nil)))))
    (pss_one (ps_ret pe_non)))))), ?_⟩
  refine ⟨_, rfl, p, C, dx, _, _, rfl, G.o, T.cl, T.nP, gf_pairs _ _ _ _, pt, _, rfl, .inr (SqT.of G.t), _, rfl, p, C, dx, _, _, rfl, G.o, T.cl, T.nR, gf_rounds _ _ _ _, rfl, _, rfl, ?_⟩
  refine ite2 (fun e => ?_) (fun e => ?_)
  · have e1 := int_eq e
    rw [List.length_map] at e1
    exact q none .non H (Same.refl H) (.inl (by omega)) rfl
  have hlt : prs.length < r := by
    have : prs.length ≠ r := fun z => e (decide_eq_true (by rw [List.length_map, hql, z]))
    omega
  intro d hd
  have sd := same_new hd (ND P w d [])
  have hNd : NumD P w (upd H d (ND P w d [])) d [] := ⟨[], upd_same, (fun _ h => nomatch h), rfl, (fun _ _ e => by cases e), List.nodup_nil⟩
  refine ⟨by show 2 ≤ sizeLine; decide, fun a0 ha0 => ?_⟩
  have sa := same_new ha0 (.tup [.int 0, .int 1])
  have Ga := (G.mono sd).mono sa
  refine ⟨a0, rfl, ⟨_, SqT.of upd_same⟩, fun L hL => ?_⟩
  have dL : d ≠ L := ne_of_none (sa _ _ upd_same) hL
  have hne : ∀ (l : Addr) (ks : List Nat) (ls : List Addr) (H' : Hp), ks.length ≠ 0 → H' l = some (.lst (ks.map natV)) → H' L = some (.lst (ls.map V.ref)) → l ≠ L := by
    intro l ks ls H' hk h1 h2 e
    rw [e, h2] at h1
    have e2 : ls.map V.ref = ks.map natV := by injection (Option.some.inj h1)
    match ks, ls, hk, e2 with
    | [], _, hk, _ => exact hk rfl
    | _ :: _, [], _, e2 => cases e2
    | _ :: _, _ :: _, _, e2 => injection e2 with e3 _; cases e3
  refine walk_t (xs := [.int 0, .int 1]) (fun i H' => But d (upd (upd H d (ND P w d [])) a0 (.tup [.int 0, .int 1])) H' ∧ ∃ (ls : List Addr) (Di : List (List Itm)), ls.length = i ∧ H' L = some (.lst (ls.map V.ref)) ∧ NumD P w H' d Di ∧ Di.length ≤ i * 400000 ∧
      ∀ (j : Nat) l, ls[j]? = some l → ∃ ks, H' l = some (.lst (ks.map natV)) ∧ KindsOk Di (r - prs.length - 1) u v prs j ks)
    ⟨But.of (same_new hL _), [], [], rfl, upd_same, (hNd.mono sa).mono (same_new hL _), Nat.le_refl _, fun j l e => by cases e⟩ (fun i H' ⟨s3, _⟩ => SqT.of (s3 _ _ (ne_of upd_same (sa _ _ upd_same) (by intro z; cases z)) upd_same)) ?_ ?_
  · rintro i x H3 hx ⟨b3, ls, Di, hls, hL3, hN3, hDi, hall⟩
    have hx2 : i ≤ 1 ∧ x = .int (i : Int) := by
      rcases i with _ | _ | i
      · cases hx; exact ⟨by omega, rfl⟩
      · cases hx; exact ⟨by omega, rfl⟩
      · cases hx
    obtain ⟨hi, rfl⟩ := hx2
    have S3 : Same H H3 := fun b o e => b3 b o (ne_of_none e hd) (sa b o (sd b o e))
    have G3 := G.mono S3
    refine ⟨rfl, yes ?_⟩
    refine ⟨_, rfl, p, dx, _, rfl, G3.o, gf_no _ _ _ _ (by decide +kernel), _, rfl, _, rfl, p, dx, wt, pt, al, u, v, r, i, r - prs.length - 1, prs, qs, d, Di, rfl, G3, hu, hv, hr3, hi, by omega, hin, hN3, by omega, fun La H4 D4 ks b4 hN4 pre4 len4 hLa gk => ?_⟩
    have hL4 := b4 L _ (Ne.symm dL) hL3
    have nLa := hne La ks ls H4 (by rw [gk.1]; omega) hLa hL4
    refine ⟨_, hL4, small_lt (by rw [List.length_map]; omega), fun c o hc ho => ?_, ls ++ [La], D4, by rw [List.length_append, hls]; rfl, ?_, ?_, by omega, fun j l hj => ?_⟩
    · rw [upd_ne (ne_of_none ho hL)]
      exact b4 c o hc (b3 c o hc ho)
    · rw [upd_same, List.map_append]
      rfl
    · obtain ⟨kvs, h1, h2, h3, h4, h5⟩ := hN4
      exact ⟨kvs, by rw [upd_ne dL]; exact h1, h2.but (a := L) (fun vs e => by rw [hL4] at e; cases e) (fun c o hc2 ho => by rw [upd_ne hc2]; exact ho), h3, h4, h5⟩
    · by_cases hjl : j < ls.length
      · rw [List.getElem?_append_left hjl] at hj
        obtain ⟨ks', h1, g1⟩ := hall j l hj
        have nd : l ≠ d := by
          obtain ⟨kvs, h2, _⟩ := hN3
          exact ne_of h1 h2 (by intro z; cases z)
        have h1' := b4 l _ nd h1
        have n1 := hne l ks' ls H4 (by rw [g1.1]; omega) h1' hL4
        exact ⟨ks', by rw [upd_ne n1]; exact h1', g1.mono pre4⟩
      · have hj2 := (List.getElem?_eq_some_iff.mp hj).1
        rw [List.length_append, List.length_singleton] at hj2
        have ej : j = ls.length := by omega
        rw [ej, List.getElem?_append_right (Nat.le_refl _)] at hj
        have et : La = l := by simpa using hj
        rw [← et, ej, hls]
        exact ⟨ks, by rw [upd_ne nLa]; exact hLa, gk⟩
  rintro H3 ⟨b3, ls, Di, hls, hL3, hN3, hDi, hall⟩
  obtain ⟨l0, l1, rfl⟩ : ∃ l0 l1, ls = [l0, l1] := by
    match ls, hls with
    | [t0, t1], _ => exact ⟨t0, t1, rfl⟩
  have S3 : Same H H3 := fun b o e => b3 b o (ne_of_none e hd) (sa b o (sd b o e))
  obtain ⟨kvs, _, _, _, _, nd⟩ := hN3
  refine ⟨by show 2 ≤ sizeLine; decide, fun a1 ha1 => ?_⟩
  have sb := same_new ha1 (.tup [.int 0, .int 1])
  refine ⟨a1, rfl, ⟨_, SqT.of upd_same⟩, ?_⟩
  refine for_tup (K := K) (a := a1) (xs := [.int 0, .int 1]) (fun i σ H' => ∃ (y2 y4 y5 : Option V), σ = [some (.ref p), some (.ref d), y2, some (.ref L), y4, y5] ∧ Same (upd H3 a1 (.tup [.int 0, .int 1])) H' ∧
      ∀ s' x', s' < i → x' ≤ (wd u v s').length → ∃ y, y ≤ (wd u v (1 - s')).length ∧ Wins (r - prs.length - 1) u v prs s' x' y) ⟨none, none, none, rfl, Same.refl _, fun s' x' h => by omega⟩ (fun i σ H' _ ⟨_, _, _, _, s4, _⟩ => SqT.of (s4 _ _ upd_same)) ?_ ?_
  · rintro i x σ H4 hx ⟨y2, y4, y5, rfl, s4, hwin⟩
    have hx2 : i ≤ 1 ∧ x = .int (i : Int) := by
      rcases i with _ | _ | i
      · cases hx; exact ⟨by omega, rfl⟩
      · cases hx; exact ⟨by omega, rfl⟩
      · cases hx
    obtain ⟨hi, rfl⟩ := hx2
    have s34 := sb.trans s4
    obtain ⟨li, hli⟩ : ∃ li, [l0, l1][i]? = some li := by
      rcases i with _ | _ | i
      · exact ⟨_, rfl⟩
      · exact ⟨_, rfl⟩
      · omega
    obtain ⟨lj, hlj⟩ : ∃ lj, [l0, l1][1 - i]? = some lj := by
      rcases i with _ | _ | i
      · exact ⟨_, rfl⟩
      · exact ⟨_, rfl⟩
      · omega
    obtain ⟨ks, hks, gk⟩ := hall i li hli
    obtain ⟨js, hjs, gj⟩ := hall (1 - i) lj hlj
    have at1 : atI ([l0, l1].map V.ref) (i : Int) = some (.ref li) := atI_nat (by rw [List.getElem?_map, hli] <;> rfl)
    have at2 : atI ([l0, l1].map V.ref) (1 - (i : Int)) = some (.ref lj) := by
      have e : 1 - (i : Int) = ((1 - i : Nat) : Int) := by omega
      rw [e]
      exact atI_nat (by rw [List.getElem?_map, hlj] <;> rfl)
    refine ⟨_, rfl, _, rfl, L, _, _, _, rfl, rfl, SqL.of (s34 _ _ hL3), at1, li, _, rfl, SqL.of (s34 _ _ hks), ?_⟩
    refine L2.for_it (walk_enum (xs := ks.map natV)) (fun j σ H' => ∃ (y4 y5 : Option V), σ = [some (.ref p), some (.ref d), some (.int (i : Int)), some (.ref L), y4, y5] ∧ Same H3 H' ∧ Same (upd H3 a1 (.tup [.int 0, .int 1])) H' ∧
        ∀ x', x' < j → ∃ y, y ≤ (wd u v (1 - i)).length ∧ Wins (r - prs.length - 1) u v prs i x' y) ⟨_, _, rfl, s34, s4, fun x' h => by omega⟩ (fun _ _ _ _ ⟨_, _, _, s5, _⟩ => SqL.of (s5 _ _ hks)) ?_ ?_
    · rintro j y σ H5 H6 hj ⟨y4, y5, rfl, s5, s5', hin5⟩ ⟨t, a, b, rfl, ht, rfl, ha, hb⟩
      obtain rfl : a = natV j := (Option.some.inj ha).symm
      obtain ⟨k, hk, rfl, _⟩ := get_map hb
      have st := same_new ht (.tup [natV j, natV k])
      have s6 := s5.trans st
      have hjl : j ≤ (wd u v i).length := by
        have := (List.getElem?_eq_some_iff.mp hk).1
        have := gk.1
        omega
      have key : ∀ y k', js[y]? = some k' → (k' = k ↔ Wins (r - prs.length - 1) u v prs i j y) := fun y k' hy => kinds_iff nd hin hi gk gj hk hy
      refine ⟨t, _, rfl, SqT.of upd_same, rfl, _, _, rfl, _, _, rfl, rfl, ?_⟩
      refine ⟨_, rfl, _, rfl, _, rfl, _, _, rfl, rfl, L, _, _, _, rfl, rfl, SqL.of (s6 _ _ hL3), at2, lj, _, rfl, .inl (SqL.of (s6 _ _ hjs)), rfl, flat_nat js, _, rfl, ?_⟩
      refine ite2 (fun e => ?_) (fun e => ?_)
      · have hnot : k ∉ js := fun hm => by
          have e2 : (!inV (natV k) (js.map natV)) = true := e
          rw [inV_nat.mpr hm] at e2
          cases e2
        refine ⟨_, rfl, _, rfl, by show 2 ≤ sizeLine; decide, fun tt htt => ?_⟩
        have s7 := s6.trans (same_new htt (.tup [natV i, natV j]))
        refine q (some (i, j)) _ _ (S3.trans s7) ⟨hlt, hi, hjl, fun y hy hw => ?_, fun s' x' h1 h2 h3 => ?_⟩ ⟨tt, rfl, upd_same⟩
        · obtain ⟨k', hk'⟩ : ∃ k', js[y]? = some k' := ⟨js[y]'(by rw [gj.1]; omega), List.getElem?_eq_getElem _⟩
          exact hnot ((key y k' hk').mpr hw ▸ List.mem_of_getElem? hk')
        · rcases h3 with h3 | ⟨rfl, h3⟩
          · exact hwin s' x' h3 h2
          · exact hin5 x' h3
      · have hm : k ∈ js := by
          refine Classical.byContradiction fun hm => e ?_
          have e2 : inV (natV k) (js.map natV) = false := Bool.eq_false_iff.mpr fun z => hm (inV_nat.mp z)
          show (!inV (natV k) (js.map natV)) = true
          rw [e2]
          rfl
        refine ⟨_, _, rfl, s6, s5'.trans st, fun x' hx' => ?_⟩
        by_cases ex : x' = j
        · subst ex
          obtain ⟨y, hy⟩ := List.getElem?_of_mem hm
          have := (List.getElem?_eq_some_iff.mp hy).1
          have := gj.1
          exact ⟨y, by omega, (key y k hy).mp rfl⟩
        · exact hin5 x' (by omega)
    · rintro σ H5 ⟨y4, y5, rfl, s5, s5', hin5⟩
      rw [List.length_map, gk.1] at hin5
      refine ⟨_, _, _, rfl, s5', fun s' x' h1 h2 => ?_⟩
      by_cases ex : s' = i
      · subst ex
        exact hin5 x' (by omega)
      · exact hwin s' x' (by omega) h2
  · rintro σ H4 ⟨y2, y4, y5, rfl, s4, hwin⟩
    exact q none .non H4 (S3.trans (sb.trans s4)) (.inr fun s' x' h1 h2 => hwin s' x' (by show s' < 2; omega) h2) rfl
end
end W8

set_option Elab.async false
set_option linter.all false
set_option maxRecDepth 100000
set_option maxHeartbeats 4000000
namespace W8
open PySem L2 NK GM
open PySem.W (Datum Tup)
/-- == of data -/
def rEqX (K : PySem.W.Frag) (α : Type) [DecidableEq α] [Datum α] : R2 := fun x y H Q => ∃ a b : α, Dp K H x (Datum.toD a) ∧ Dp K H y (Datum.toD b) ∧ Q (.bl (decide (a = b))) H
theorem op_eqX {X : Cx} {α : Type} [DecidableEq α] [Datum α] (hu : X.A.units + 64 < cLine) (hd : Datum.depth α ≤ 64) : OpR X (compareOp .Eq) (rEqX X.K α) := by
  intro pins s σ H x y v u Q I rx ry h
  obtain ⟨a, b, ha, hb, q⟩ := h
  exact PySem.W.eq_datum (Dp.reads I _ x v ha rx) (Dp.reads I _ y u hb ry) (by omega) ⟨.bl _, H, I, rfl, q⟩
abbrev PlainT := Tup Str × Tup Int
def plainD (u ps : List Nat) : PlainT := (⟨letsOf u ps⟩, ⟨ordOf ps⟩)
abbrev sLPlain : Stmt := top 23
theorem scLPlain : FnScope ["word", "places", "letters", "order", "one", "other", "at"] ["word", "places"] (defScope sLPlain) := ⟨rfl, rfl, rfl, by decide +kernel, rfl, by decide +kernel, by decide +kernel⟩
def spLPlain (K : PySem.W.Frag) : Sp := fun vs H Q _ => ∃ (u ps : List Nat) (a : Addr), vs = [.str (S u), .ref a] ∧ SqL K H a (ps.map natV) ∧ (∀ p ∈ ps, p ≤ u.length) ∧ u.length ≤ 1000 ∧ ps.length ≤ 10 ∧ ∀ b H', Same H H' → Dp K H' (.ref b) (Datum.toD (plainD u ps)) → Q (.ref b) H'
abbrev sFit : Stmt := top 24
theorem scFit : FnScope ["words", "pairs", "pair"] ["words", "pairs"] (defScope sFit) := ⟨rfl, rfl, rfl, by decide +kernel, rfl, by decide +kernel, by decide +kernel⟩
/-- a list of pairs -/
def PairsAt (H : Hp) (a : Addr) (prs : Prs) : Prop := ∃ ts : List Addr, H a = some (.lst (ts.map V.ref)) ∧ Paired (fun (t : Addr) (pr : Nat × Nat) => H t = some (.tup [natV pr.1, natV pr.2])) ts prs
theorem PairsAt.mono {H H' : Hp} {a : Addr} {prs : Prs} (s : Same H H') (h : PairsAt H a prs) : PairsAt H' a prs := by
  obtain ⟨ts, h1, h2⟩ := h
  exact ⟨ts, s _ _ h1, Paired.mapP h2 fun _ _ z => s _ _ z⟩
def spFit (K : PySem.W.Frag) : Sp := fun vs H Q _ => ∃ (W a : Addr) (u v : List Nat) (prs : Prs), vs = [.ref W, .ref a] ∧ SqT K H W [.str (S u), .str (S v)] ∧ PairsAt H a prs ∧ Inb u.length v.length prs ∧ u.length ≤ 60 ∧ v.length ≤ 60 ∧ prs.length ≤ 10 ∧ ∀ (b : Bool) H', Same H H' → (b = true ↔ Win 0 u v prs) → Q (.bl b) H'
abbrev sLPlace : Stmt := top 25
theorem scLPlace : FnScope ["place", "word"] ["place", "word"] (defScope sLPlace) := ⟨rfl, rfl, rfl, by decide +kernel, rfl, by decide +kernel, by decide +kernel⟩
def spLPlace : Sp := fun vs H Q _ => ∃ (x : Nat) (z : List Nat), vs = [.int (x : Int), .str (S z)] ∧ x ≤ z.length ∧ z.length ≤ 1000 ∧ Q (.bl true) H
abbrev sAimed : Stmt := top 26
theorem scAimed : FnScope ["told", "words"] ["told", "words"] (defScope sAimed) := ⟨rfl, rfl, rfl, by decide +kernel, rfl, by decide +kernel, by decide +kernel⟩
def spAimed (K : PySem.W.Frag) : Sp := fun vs H Q _ => ∃ (t W : Addr) (u v : List Nat) (s x : Nat), vs = [.ref t, .ref W] ∧ H t = some (.tup [natV s, natV x]) ∧ SqT K H W [.str (S u), .str (S v)] ∧ u.length ≤ 60 ∧ v.length ≤ 60 ∧ s ≤ 1 ∧ x ≤ (wd u v s).length ∧ ∀ H', Same H H' → Q (.bl true) H'
abbrev sPair : Stmt := top 27
theorem scPair : FnScope ["side", "place", "answer"] ["side", "place", "answer"] (defScope sPair) := ⟨rfl, rfl, rfl, by decide +kernel, rfl, by decide +kernel, by decide +kernel⟩
def spPair : Sp := fun vs H Q _ => ∃ (s x y : Nat), vs = [.int (s : Int), .int (x : Int), .int (y : Int)] ∧ s ≤ 1 ∧ ∀ t H', Same H H' → H' t = some (.tup [natV (mkp s x y).1, natV (mkp s x y).2]) → Q (.ref t) H'
theorem cut_lt (u : List Nat) {p : Nat} (hp : p ≤ u.length) : cutS (S u) (some (if (p : Int) - 1 > 0 then (p : Int) - 1 else 0)) (some (p : Int)) = S (ltS u p) := by
  unfold cutS
  have e : (if (p : Int) - 1 > 0 then (p : Int) - 1 else 0) = ((p - 1 : Nat) : Int) := by split <;> omega
  rw [e, HT.sIx_nat, HT.sIx_nat]
  have l : (S u).cps.toList = u := rfl
  rw [l, Nat.min_eq_left (show p - 1 ≤ (S u).length by rw [S_len]; omega), Nat.min_eq_left (show p ≤ (S u).length by rw [S_len]; omega)]
  unfold ltS
  by_cases h : p = 0
  · subst h
    rfl
  · rw [if_neg h]
    have e2 : p - (p - 1) = 1 := by omega
    rw [e2]
    have hlt : p - 1 < u.length := by omega
    rw [List.drop_eq_getElem_cons hlt, List.getD_eq_getElem?_getD, List.getElem?_eq_getElem hlt]
    rfl
theorem dpAll_str {K : PySem.W.Frag} {H : Hp} : ∀ xs : List Str, DpAll K H (xs.map V.str) (xs.map Datum.toD)
  | [] => .nil
  | x :: xs => .cons (.str x) (dpAll_str xs)
theorem dpAll_int {K : PySem.W.Frag} {H : Hp} : ∀ xs : List Int, DpAll K H (xs.map V.int) (xs.map Datum.toD)
  | [] => .nil
  | x :: xs => .cons (.int x) (dpAll_int xs)
theorem plainD_iff {u v : List Nat} {Z : Prs} (b : Inb u.length v.length Z) : plainD u (Z.map (·.1)) = plainD v (Z.map (·.2)) ↔ Win 0 u v Z := by
  refine Iff.trans ?_ (plain_iff b)
  unfold plainD plainK
  constructor
  · intro h
    injection h with h1 h2
    injection h1 with h1
    injection h2 with h2
    rw [h1, h2]
  · intro h
    injection h with h1 h2
    injection h2 with h2 _
    rw [map_inr_inj (Sum.inr.inj h1), map_inl_inj (Sum.inr.inj h2)]
section
variable {P : Program} {w : World} {K : PySem.W.Frag} {mg : Str → Option Value} {base : Heap}
theorem ok_lplace {f : Addr} {fd : FuncData} (F : Fun K "_law_place" "_law_place" sLPlace f fd) (T : SameT mg) : FnOk P w K mg base CX0 1 f fd ["place", "word"] spLPlace := by
  refine F.ok scLPlace (fun vs H Q E h => ?_) (fun cdv A outer s H vs Q E hr h => ?_)
  · obtain ⟨x, z, rfl, _⟩ := h
    rfl
  obtain ⟨x, z, rfl, hx, hz, q⟩ := h
  refine ⟨_, (pss_one (ps_ret (pe_and (pe_callB call_isi (by rfl) T.isinstance (by decide +kernel) (pa_cons (pv 0) (pa_cons (pe_bltn (v := .ty "int") (by rfl) T.int (by decide +kernel) rfl) pa_nil))) (pe_and (pe_not (pe_callB call_isi (by rfl) T.isinstance (by decide +kernel) (pa_cons (pv 0) (pa_cons (pe_bltn (v := .ty "bool") (by rfl) T.bool (by decide +kernel) rfl) pa_nil)))) (pe_and (pe_cmpR op_le pe_int (pv 0) (nomark _)) (pe_one (pe_cmpR op_le (pv 0) (pB1 call_len_str T.len (pv 1)) (nomark _)))))))), ?_⟩
  have hd : Dp K H (.int (x : Int)) (.int (x : Int)) := .int _
  refine ⟨_, rfl, _, _, _, _, _, rfl, .ty _, dp_ty hd, kit_int _, _, rfl, ?_⟩
  refine ⟨_, rfl, _, _, _, _, _, rfl, .ty _, dp_ty hd, kit_bool _, _, rfl, _, rfl, ?_⟩
  refine ⟨_, rfl, _, _, rfl, rfl, _, rfl, ?_⟩
  refine ite2 (fun _ => ?_) (fun e => absurd (decide_eq_true (by omega)) e)
  refine ⟨_, rfl, _, rfl, _, rfl, sz (by rw [S_len]; omega), _, _, rfl, rfl, ?_⟩
  have e : decide ((x : Int) ≤ ((S z).length : Int)) = true := decide_eq_true (by rw [S_len]; omega)
  show Q (.bl (decide ((x : Int) ≤ ((S z).length : Int)))) H
  rw [e]
  exact q
theorem ok_aimed {f : Addr} {fd : FuncData} (F : Fun K "_law_aimed" "_law_aimed" sAimed f fd) (T : SameT mg) (cp : Cal P w K mg base "_law_place" 1 ["place", "word"] spLPlace) : FnOk P w K mg base CX0 2 f fd ["told", "words"] (spAimed K) := by
  refine F.ok scAimed (fun vs H Q E h => ?_) (fun cdv A outer s H vs Q E hr h => ?_)
  · obtain ⟨t, W, u, v, s, x, rfl, _⟩ := h
    rfl
  obtain ⟨t, W, u, v, s, x, rfl, ht, hW, hu, hv, hs, hx, q⟩ := h
  refine ⟨_, (pss_cons (ps_if (PW.pt (pw_or (pt_not (pt_val (pe_callB call_isi (by rfl) T.isinstance (by decide +kernel) (pa_cons (pv 0) (pa_cons (pe_bltn (v := .ty "tuple") (by rfl) T.tuple (by decide +kernel) rfl) pa_nil))))) (pw_or1 (pt_cmpR op_ne (pB1 call_len_seq T.len (pv 0)) pe_int (nomark _)))))
      pss_never
      pss_nil)
    (pss_cons (ps_if (PW.pt (pw_or (pt_not (pt_val (pe_callB call_isi (by rfl) T.isinstance (by decide +kernel) (pa_cons (pixT (pv 0) pe_int) (pa_cons (pe_bltn (v := .ty "int") (by rfl) T.int (by decide +kernel) rfl) pa_nil))))) (pw_or (pt_val (pe_callB call_isi (by rfl) T.isinstance (by decide +kernel) (pa_cons (pixT (pv 0) pe_int) (pa_cons (pe_bltn (v := .ty "bool") (by rfl) T.bool (by decide +kernel) rfl) pa_nil)))) (pw_or1 (pt_cmpR op_notIn_seq (pixT (pv 0) pe_int) (pe_lst (pa_cons pe_int (pa_cons pe_int pa_nil))) rfl)))))
      pss_never
      pss_nil)
    (pss_one (ps_ret (pcall cp hr (pa_cons (pixT (pv 0) pe_int) (pa_cons (pixT (pv 1) (pixT (pv 0) pe_int)) pa_nil))))))), ?_⟩
  have hd : Dp K H (.ref t) (.tuple [.int (s : Int), .int (x : Int)]) := .tup (SqT.of ht) (.cons (.int _) (.cons (.int _) .nil))
  refine ⟨_, rfl, _, _, _, _, _, rfl, .ty _, dp_ty hd, kit_tuple _, _, rfl, ?_⟩
  refine ite2 (fun z => (nomatch z)) (fun _ => ?_)
  refine ⟨_, rfl, t, _, rfl, .inr (SqT.of ht), rfl, _, rfl, ?_⟩
  refine ite2 (fun z => by rw [decide_eq_true (show V.int ((([natV s, natV x] : List V).length : Nat) : Int) = V.int 2 from rfl)] at z; cases z) (fun _ => ?_)
  have hd0 : Dp K H (.int (s : Int)) (.int (s : Int)) := .int _
  refine ⟨_, rfl, t, _, _, _, rfl, rfl, SqT.of ht, rfl, _, _, _, _, _, rfl, .ty _, dp_ty hd0, kit_int _, _, rfl, ?_⟩
  refine ite2 (fun z => (nomatch z)) (fun _ => ?_)
  refine ⟨_, rfl, t, _, _, _, rfl, rfl, SqT.of ht, rfl, _, _, _, _, _, rfl, .ty _, dp_ty hd0, kit_bool _, _, rfl, ?_⟩
  refine ite2 (fun z => (nomatch z)) (fun _ => ?_)
  refine ⟨_, rfl, t, _, _, _, rfl, rfl, SqT.of ht, rfl, by show 2 ≤ sizeLine; decide, fun l hl => ?_⟩
  have s1 := same_new hl (.lst [.int 0, .int 1])
  refine ⟨l, _, rfl, .inl (SqL.of upd_same), rfl, rfl, _, rfl, ?_⟩
  have e1 : (if true = true then !inV (natV s) [.int 0, .int 1] else inV (natV s) [.int 0, .int 1]) = false := by
    rcases s with _ | _ | s
    · rfl
    · rfl
    · omega
  refine ite2 (fun z => absurd (e1.symm.trans z) (by decide)) (fun _ => ?_)
  have ht1 := s1 _ _ ht
  exact ⟨_, rfl, t, _, _, _, rfl, rfl, SqT.of ht1, rfl, _, rfl, _, rfl, t, _, _, _, rfl, rfl, SqT.of ht1, rfl, W, _, _, _, rfl, rfl, seqT s1 hW, wd_at u v hs, x, wd u v s, rfl, hx, Nat.le_trans (wd_len hu hv) (by decide), q _ s1⟩
theorem ok_pair {f : Addr} {fd : FuncData} (F : Fun K "_law_pair" "_law_pair" sPair f fd) : FnOk P w K mg base CX0 1 f fd ["side", "place", "answer"] spPair := by
  refine F.ok scPair (fun vs H Q E h => ?_) (fun cdv A outer s H vs Q E hr h => ?_)
  · obtain ⟨s, x, y, rfl, _⟩ := h
    rfl
  obtain ⟨s, x, y, rfl, hs, q⟩ := h
  refine ⟨_, (pss_one (ps_ret (pixL (pe_lst (pa_cons (pe_tup (pa_cons (pv 1) (pa_cons (pv 2) pa_nil))) (pa_cons (pe_tup (pa_cons (pv 2) (pa_cons (pv 1) pa_nil))) pa_nil))) (pv 0)))), ?_⟩
  refine ⟨_, rfl, _, rfl, by show 2 ≤ sizeLine; decide, fun t1 h1 => ?_⟩
  refine ⟨_, rfl, _, rfl, by show 2 ≤ sizeLine; decide, fun t2 h2 => ?_⟩
  refine ⟨by show 2 ≤ sizeLine; decide, fun l hl => ?_⟩
  have s1 := same_new h1 (.tup [natV x, natV y])
  have s2 := same_new h2 (.tup [natV y, natV x])
  have s3 := same_new hl (.lst [.ref t1, .ref t2])
  rcases s with _ | _ | s
  · exact ⟨_, rfl, l, _, _, .ref t1, rfl, rfl, SqL.of upd_same, rfl, q t1 _ (s1.trans (s2.trans s3)) (s3 _ _ (s2 _ _ upd_same))⟩
  · exact ⟨_, rfl, l, _, _, .ref t2, rfl, rfl, SqL.of upd_same, rfl, q t2 _ (s1.trans (s2.trans s3)) (s3 _ _ upd_same)⟩
  · omega
theorem ok_lplain {f : Addr} {fd : FuncData} (F : Fun K "_law_plain" "_law_plain" sLPlain f fd) (tt : mg "tuple" = none) (ti : mg "int" = none) (tm : mg "max" = none) : FnOk P w K mg base CX0 1 f fd ["word", "places"] (spLPlain K) := by
  refine F.ok scLPlain (fun vs H Q E h => ?_) (fun cdv A outer s H vs Q E hr h => ?_)
  · obtain ⟨u, ps, a, rfl, _⟩ := h
    rfl
  obtain ⟨u, ps, a, rfl, st, hle, hu, hps, q⟩ := h
  refine ⟨_, (pss_cons (ps_set (i := 2) scLPlain.nd rfl (Or.inl rfl) (pT1 (r := rTupOf K) cr_tupOf tt (pe_lc (own := [("at", 6)]) (g := gName 6) (tt := tYes) rfl scLPlain.nd (pi_list (pv 1)) (blkOk_by (own := [("at", 6)]) (N := ["word", "places", "letters", "order", "one", "other", "at"]) (sc := defScope sLPlain) (by decide +kernel)) (fun _ _ _ _ _ => (pg_name (i := 6) scLPlain.nd rfl (Or.inl rfl))) (fun _ _ _ _ _ => pts_nil) (fun _ _ _ _ _ => (pe_op op_add_str pe_str (pe_slice sl_str (pv 0) (po_some (pe_callB (call_max2 rfl) (by rfl) tm (by decide +kernel) (pa_cons pe_int (pa_cons (pe_op op_sub (pv 6) pe_int) pa_nil)))) (po_some (pv 6))))))))
    (pss_cons (ps_set (i := 3) scLPlain.nd rfl (Or.inl rfl) (pe_lst pa_nil))
    (pss_cons (ps_for PassesOwn.never rfl (pi_list (pv 1)) (pg_name (i := 4) scLPlain.nd rfl (Or.inl rfl))
      (pss_one (ps_for PassesOwn.never rfl (pi_list (pv 1)) (pg_name (i := 5) scLPlain.nd rfl (Or.inl rfl))
        (pss_one (ps_expr (pe_bm PySem.F.plainAttrs_list PySem.F.slot_list_append PySem.F.type_list_append mt_append (pv 3) (pa_cons (pe_op op_sub (pT1 call_int1 ti (pe_cmpR op_gt (pv 4) (pv 5) (nomark _))) (pT1 call_int1 ti (pe_cmpR op_lt (pv 4) (pv 5) (nomark _)))) pa_nil)))))))
    (pss_one (ps_ret (pe_tup (pa_cons (pv 2) (pa_cons (pT1 (r := rTupOf K) cr_tupOf tt (pv 3)) pa_nil)))))))), ?_⟩
  have hlen : (ps.map natV).length = ps.length := List.length_map _
  refine ⟨_, rfl, a, rfl, ⟨_, st⟩, fun D hD => ?_⟩
  refine walk_l (xs := ps.map natV) (fun i H' => Same H H' ∧ H' D = some (.lst ((letsOf u (ps.take i)).map V.str))) ⟨same_new hD _, upd_same⟩ (fun i H' ⟨s3, _⟩ => s3.seq st) ?_ ?_
  · rintro i x H1 hx ⟨s1, hD1⟩
    obtain ⟨x, hxi, rfl, hxm⟩ := get_map hx
    refine ⟨rfl, yes ?_⟩
    have hxl := hle x hxm
    have ec : cutS (S u) (some (if (x : Int) - 1 > 0 then (x : Int) - 1 else 0)) (some (x : Int)) = S (ltS u x) := cut_lt u hxl
    have ll : (ltS u x).length ≤ 1 := by unfold ltS; split <;> simp
    refine ⟨_, rfl, _, rfl, _, _, rfl, rfl, _, _, rfl, _, rfl, _, rfl, _, rfl, _, rfl, sz (by rw [S_len]; omega), _, _, rfl, rfl, sz ?_, ?_⟩
    · rw [ec, S_len]
      show 0 + (ltS u x).length ≤ 100000
      omega
    refine ⟨_, hD1, small_lt ?_, same_upd s1 hD, ?_⟩
    · unfold letsOf
      rw [List.length_map, List.length_map, List.length_take]
      omega
    · rw [upd_same, ec]
      unfold letsOf
      rw [take_map _ hxi, List.map_append]
      have e0 : ("" : Str) ++ S (ltS u x) = S (ltS u x) := by
        have : ("" : Str) = S [] := rfl
        rw [this, S_app]
        rfl
      rw [e0]
      rfl
  rintro H1 ⟨s1, hD1⟩
  rw [hlen, List.take_length] at hD1
  refine ⟨_, _, rfl, .inl ⟨SqL.of hD1, fun lt hlt => ?_⟩⟩
  have s2 := s1.trans (same_new hlt (.tup ((letsOf u ps).map V.str)))
  refine ⟨Nat.zero_le _, fun O hO => ?_⟩
  have hlt2 : (upd H1 lt (.tup ((letsOf u ps).map V.str))) lt = some (.tup ((letsOf u ps).map V.str)) := upd_same
  have st2 := s2.seq st
  have hO0 : H O = none := s2.free hO
  refine ⟨_, rfl, a, rfl, ⟨_, (same_new hO _).seq st2⟩, ?_⟩
  refine for_list (K := K) (a := a) (xs := ps.map natV) (fun i σ H' => ∃ (y4 y5 : Option V), σ = [some (.str (S u)), some (.ref a), some (.ref lt), some (.ref O), y4, y5, none] ∧ Same (upd H1 lt (.tup ((letsOf u ps).map V.str))) H' ∧ H' O = some (.lst (((ps.take i).flatMap fun x => ps.map fun y => cmpI x y).map V.int))) ⟨none, none, rfl, same_new hO _, upd_same⟩ (fun i σ H' _ ⟨_, _, _, s3, _⟩ => s3.seq st2) ?_ ?_
  · rintro i x σ H3 hx ⟨y4, y5, rfl, s3, hO3⟩
    obtain ⟨x, hxi, rfl, hxm⟩ := get_map hx
    refine ⟨_, rfl, a, rfl, ⟨_, s3.seq st2⟩, ?_⟩
    refine for_list (K := K) (a := a) (xs := ps.map natV) (fun j σ H' => ∃ (y5 : Option V), σ = [some (.str (S u)), some (.ref a), some (.ref lt), some (.ref O), some (natV x), y5, none] ∧ Same (upd H1 lt (.tup ((letsOf u ps).map V.str))) H' ∧ H' O = some (.lst ((((ps.take i).flatMap fun x => ps.map fun y => cmpI x y) ++ (ps.take j).map fun y => cmpI x y).map V.int))) ⟨_, rfl, s3, by rw [hO3]; simp⟩ (fun i σ H' _ ⟨_, _, s3, _⟩ => s3.seq st2) ?_ ?_
    · rintro j y σ H4 hy ⟨y5, rfl, s4, hO4⟩
      obtain ⟨y, hyj, rfl, hym⟩ := get_map hy
      refine ⟨_, rfl, .inl ⟨rfl, _, SqL.of hO4⟩, _, rfl, _, rfl, _, _, rfl, rfl, .inr ⟨_, rfl, _, rfl, _, rfl, _, _, rfl, rfl, .inr ⟨_, rfl, _, _, rfl, rfl, ?_⟩⟩⟩
      refine ⟨_, _, _, rfl, rfl, hO4, small_lt ?_, _, rfl, same_upd s4 hO, ?_⟩
      · have e1 := ordTake_len ps i
        have e2 : ((ps.take j).map fun y => cmpI x y).length ≤ ps.length := by rw [List.length_map, List.length_take]; omega
        rw [List.length_map, List.length_append]
        have : ps.length * ps.length ≤ 10 * 10 := Nat.mul_le_mul hps hps
        omega
      · rw [upd_same, take_map _ hyj, ← List.append_assoc]
        rw [List.map_append (l₂ := [cmpI x y])]
        exact congrArg (fun z => some (HO.lst (_ ++ [z]))) (cmp_val x y)
    · rintro σ H4 ⟨y5, rfl, s4, hO4⟩
      refine ⟨_, _, rfl, s4, ?_⟩
      rw [hO4, flat_take _ hxi, hlen, List.take_length]
  · rintro σ H3 ⟨y4, y5, rfl, s3, hO3⟩
    rw [hlen, List.take_length] at hO3
    refine ⟨_, rfl, _, rfl, _, _, rfl, .inl ⟨SqL.of hO3, fun ot hot => ?_⟩⟩
    have s4 := same_new hot (.tup ((ordOf ps).map V.int))
    refine ⟨by show 2 ≤ sizeLine; decide, fun rt hrt => ?_⟩
    have s5 := same_new hrt (.tup [.ref lt, .ref ot])
    refine q rt _ (s2.trans (s3.trans (s4.trans s5))) ?_
    exact .tup (SqT.of upd_same) (.cons (.tup (SqT.of (s5 _ _ (s4 _ _ (s3 _ _ hlt2)))) (dpAll_str _)) (.cons (.tup (SqT.of (s5 _ _ upd_same)) (dpAll_int _)) .nil))
end
end W8

set_option Elab.async false
set_option linter.all false
set_option maxRecDepth 100000
set_option maxHeartbeats 4000000
namespace W8
open PySem L2 NK GM
open PySem.W (Datum Tup)
section
variable {P : Program} {w : World} {K : PySem.W.Frag} {mg : Str → Option Value} {base : Heap}
theorem ok_fit {f : Addr} {fd : FuncData} (F : Fun K "_law_fit" "_law_fit" sFit f fd) (cp : Cal P w K mg base "_law_plain" 1 ["word", "places"] (spLPlain K)) : FnOk P w K mg base CX0 2 f fd ["words", "pairs"] (spFit K) := by
  refine F.ok scFit (fun vs H Q E h => ?_) (fun cdv A outer s H vs Q E hr h => ?_)
  · obtain ⟨W, a, u, v, prs, rfl, _⟩ := h
    rfl
  obtain ⟨W, a, u, v, prs, rfl, hW, hP, hin, hu, hv, hn, q⟩ := h
  refine ⟨_, (pss_one (ps_ret (pe_cmpR (op_eqX (α := PlainT) hr.units (by decide)) (pcall cp hr (pa_cons (pixT (pv 0) pe_int) (pa_cons (pe_lc (own := [("pair", 2)]) (g := gName 2) (tt := tYes) rfl scFit.nd (pi_list (pv 1)) (blkOk_by (own := [("pair", 2)]) (N := ["words", "pairs", "pair"]) (sc := defScope sFit) (by decide +kernel)) (fun _ _ _ _ _ => (pg_name (i := 2) scFit.nd rfl (Or.inl rfl))) (fun _ _ _ _ _ => pts_nil) (fun _ _ _ _ _ => (pe_ix (r := rIxT K) ix_tup (pv 2) pe_int (fun _ _ => rfl)))) pa_nil)))
    (pcall cp hr (pa_cons (pixT (pv 0) pe_int) (pa_cons (pe_lc (own := [("pair", 2)]) (g := gName 2) (tt := tYes) rfl scFit.nd (pi_list (pv 1)) (blkOk_by (own := [("pair", 2)]) (N := ["words", "pairs", "pair"]) (sc := defScope sFit) (by decide +kernel)) (fun _ _ _ _ _ => (pg_name (i := 2) scFit.nd rfl (Or.inl rfl))) (fun _ _ _ _ _ => pts_nil) (fun _ _ _ _ _ => (pe_ix (r := rIxT K) ix_tup (pv 2) pe_int (fun _ _ => rfl)))) pa_nil))) rfl))), ?_⟩
  obtain ⟨ts, hts, hq⟩ := hP
  have hql : ts.length = prs.length := Paired.length hq
  refine ⟨_, rfl, W, _, 0, .str (S u), rfl, rfl, hW, rfl, _, rfl, a, rfl, ⟨_, SqL.of hts⟩, fun D hD => ?_⟩
  refine walk_l (xs := ts.map V.ref) (fun j H' => Same H H' ∧ H' D = some (.lst (((prs.take j).map (·.1)).map natV))) ⟨same_new hD _, upd_same⟩ (fun j H' ⟨s4, _⟩ => SqL.of (s4 _ _ hts)) ?_ ?_
  · rintro j y H4 hy ⟨s4, hD4⟩
    obtain ⟨qa, hqa, rfl, _⟩ := get_map hy
    obtain ⟨pr, hprj, hq1⟩ := paired_get hq hqa
    refine ⟨rfl, yes ?_⟩
    refine ⟨_, rfl, qa, _, 0, natV pr.1, rfl, rfl, SqT.of (s4 _ _ hq1), rfl, ?_⟩
    refine ⟨_, hD4, small_lt ?_, same_upd s4 hD, ?_⟩
    · rw [List.length_map, List.length_map, List.length_take]
      omega
    · rw [upd_same, take_map _ hprj, List.map_append]
      rfl
  rintro H4 ⟨s4, hD4⟩
  rw [List.length_map, hql, List.take_length] at hD4
  refine ⟨u, prs.map (·.1), D, rfl, SqL.of hD4, fun y hy => ?_, by omega, by rw [List.length_map]; exact hn, fun b1 H5 s5 d5 => ?_⟩
  · obtain ⟨z, hz, rfl⟩ := List.mem_map.mp hy
    exact (hin z hz).1
  have s45 := s4.trans s5
  refine ⟨_, rfl, W, _, 1, .str (S v), rfl, rfl, seqT s45 hW, rfl, _, rfl, a, rfl, ⟨_, SqL.of (s45 _ _ hts)⟩, fun D2 hD2 => ?_⟩
  refine walk_l (xs := ts.map V.ref) (fun j H' => Same H5 H' ∧ H' D2 = some (.lst (((prs.take j).map (·.2)).map natV))) ⟨same_new hD2 _, upd_same⟩ (fun j H' ⟨s6, _⟩ => SqL.of ((s45.trans s6) _ _ hts)) ?_ ?_
  · rintro j y H6 hy ⟨s6, hD6⟩
    obtain ⟨qa, hqa, rfl, _⟩ := get_map hy
    obtain ⟨pr, hprj, hq1⟩ := paired_get hq hqa
    refine ⟨rfl, yes ?_⟩
    refine ⟨_, rfl, qa, _, 1, natV pr.2, rfl, rfl, SqT.of ((s45.trans s6) _ _ hq1), rfl, ?_⟩
    refine ⟨_, hD6, small_lt ?_, same_upd s6 hD2, ?_⟩
    · rw [List.length_map, List.length_map, List.length_take]
      omega
    · rw [upd_same, take_map _ hprj, List.map_append]
      rfl
  rintro H6 ⟨s6, hD6⟩
  rw [List.length_map, hql, List.take_length] at hD6
  refine ⟨v, prs.map (·.2), D2, rfl, SqL.of hD6, fun y hy => ?_, by omega, by rw [List.length_map]; exact hn, fun b2 H7 s7 d7 => ?_⟩
  · obtain ⟨z, hz, rfl⟩ := List.mem_map.mp hy
    exact (hin z hz).2
  have d5' := dp_mono (s6.trans s7) d5
  refine ⟨_, _, d5', d7, q _ H7 (s45.trans (s6.trans s7)) ?_⟩
  rw [decide_eq_true_eq]
  exact plainD_iff hin
end
end W8

set_option Elab.async false
set_option linter.all false
set_option maxRecDepth 100000
set_option maxHeartbeats 4000000
namespace W8
open PySem L2 NK GM
/-! ### the strategies, in plain Lean -/
theorem wins_all {n : Nat} {u v : List Nat} {prs : Prs} : Win (n + 1) u v prs ↔ ∀ s x, s ≤ 1 → x ≤ (wd u v s).length → ∃ y, y ≤ (wd u v (1 - s)).length ∧ Wins n u v prs s x y := by
  constructor
  · rintro ⟨h1, h2⟩ s x hs hx
    rcases s with _ | _ | s
    · obtain ⟨y, hy, hw⟩ := h1 x hx
      exact ⟨y, hy, (win_snoc _ _ _ _ _).mpr hw⟩
    · obtain ⟨y, hy, hw⟩ := h2 x hx
      exact ⟨y, hy, (win_snoc _ _ _ _ _).mpr hw⟩
    · omega
  · intro h
    refine ⟨fun x hx => ?_, fun x hx => ?_⟩
    · obtain ⟨y, hy, hw⟩ := h 0 x (by omega) hx
      exact ⟨y, hy, (win_snoc _ _ _ _ _).mp hw⟩
    · obtain ⟨y, hy, hw⟩ := h 1 x (by omega) hx
      exact ⟨y, hy, (win_snoc _ _ _ _ _).mp hw⟩
theorem attack_none {n r : Nat} {u v : List Nat} {prs : Prs} {o : Option (Nat × Nat)} (hw : Win n u v prs) (hr : prs.length + n = r) (h : AttackIs r u v prs o) : o = none := by
  match o, h with
  | none, _ => rfl
  | some (s, x), ⟨hlt, hs, hx, hno, _⟩ =>
    obtain ⟨m, rfl⟩ : ∃ m, n = m + 1 := ⟨n - 1, by omega⟩
    obtain ⟨y, hy, q⟩ := wins_all.mp hw s x hs hx
    have e : r - prs.length - 1 = m := by omega
    rw [e] at hno
    exact absurd q (hno y hy)
theorem attack_some {n r : Nat} {u v : List Nat} {prs : Prs} {o : Option (Nat × Nat)} (hw : ¬ Win (n + 1) u v prs) (hr : prs.length + (n + 1) = r) (h : AttackIs r u v prs o) : ∃ s x, o = some (s, x) ∧ s ≤ 1 ∧ x ≤ (wd u v s).length ∧ ∀ y, y ≤ (wd u v (1 - s)).length → ¬ Wins n u v prs s x y := by
  have e : r - prs.length - 1 = n := by omega
  match o, h with
  | none, h =>
    rcases h with h | h
    · omega
    · rw [e] at h
      exact absurd (wins_all.mpr h) hw
  | some (s, x), ⟨hlt, hs, hx, hno, _⟩ => exact ⟨s, x, rfl, hs, hx, e ▸ hno⟩
theorem reply_some {n : Nat} {u v : List Nat} {prs : Prs} {s x : Nat} {o : Option Nat} (hw : Win (n + 1) u v prs) (hs : s ≤ 1) (hx : x ≤ (wd u v s).length) (h : ReplyIs n u v prs s x o) : ∃ y, o = some y ∧ y ≤ (wd u v (1 - s)).length ∧ Wins n u v prs s x y := by
  match o, h with
  | none, h =>
    obtain ⟨y, hy, q⟩ := wins_all.mp hw s x hs hx
    exact absurd q (h y hy)
  | some y, ⟨hy, q, _⟩ => exact ⟨y, rfl, hy, q⟩
theorem reply_none {n : Nat} {u v : List Nat} {prs : Prs} {s x : Nat} {o : Option Nat} (hno : ∀ y, y ≤ (wd u v (1 - s)).length → ¬ Wins n u v prs s x y) (h : ReplyIs n u v prs s x o) : o = none := by
  match o, h with
  | none, _ => rfl
  | some y, ⟨hy, q, _⟩ => exact absurd q (hno y hy)
theorem inb_snoc {u v : List Nat} {prs : Prs} {s x y : Nat} (h : Inb u.length v.length prs) (hx : x ≤ (wd u v s).length) (hs : s ≤ 1) (hy : y ≤ (wd u v (1 - s)).length) : Inb u.length v.length (prs ++ [mkp s x y]) := fun z hz => by
  rcases List.mem_append.mp hz with e | e
  · exact h z e
  · rw [List.mem_singleton.mp e]
    rcases s with _ | _ | s
    · exact ⟨hx, hy⟩
    · exact ⟨hy, hx⟩
    · omega
/-! ### what stays when the game alone is changed -/
theorem But.insT {K : PySem.W.Frag} {p a C dx : Addr} {fs : List (Str × V)} {H H' : Hp} {xs : List V} (b : But p H H') (hp : H p = some (.ins C dx fs)) (h : SqT K H a xs) : SqT K H' a xs := by
  rcases h with (h | ⟨o, h⟩) | h
  · exact .inl (.inl (b _ _ (ne_of h hp (by intro z; cases z)) h))
  · exact .inl (.inr ⟨o, b _ _ (ne_of h hp (by intro z; cases z)) h⟩)
  · exact .inr h
theorem PairsAt.but {p a C dx : Addr} {fs : List (Str × V)} {H H' : Hp} {prs : Prs} (b : But p H H') (hp : H p = some (.ins C dx fs)) (h : PairsAt H a prs) : PairsAt H' a prs := by
  obtain ⟨ts, h1, h2⟩ := h
  exact ⟨ts, b _ _ (ne_of h1 hp (by intro z; cases z)) h1, Paired.mapP h2 fun _ _ z => b _ _ (ne_of z hp (by intro z; cases z)) z⟩
def prD (z : Nat × Nat) : PyData := .tuple [.int (z.1 : Int), .int (z.2 : Int)]
theorem dp_pairs {K : PySem.W.Frag} {H : Hp} : ∀ {ts : List Addr} {prs : Prs}, Paired (fun (t : Addr) (pr : Nat × Nat) => H t = some (.tup [natV pr.1, natV pr.2])) ts prs → DpAll K H (ts.map V.ref) (prs.map prD)
  | [], [], .nil => .nil
  | _ :: _, _ :: _, .cons h t => .cons (.tup (SqT.of h) (.cons (.int _) (.cons (.int _) .nil))) (dp_pairs t)
theorem okE_pairs {prs : Prs} (h : prs.length ≤ 100000) : okE 3 (.tuple (prs.map prD)) := by
  refine ⟨by rw [List.length_map]; exact h, fun x hx => ?_⟩
  obtain ⟨z, _, rfl⟩ := List.mem_map.mp hx
  refine ⟨by show 2 ≤ 100000; decide, fun y hy => ?_⟩
  rcases List.mem_cons.mp hy with e | e
  · rw [e]; trivial
  · rw [List.mem_singleton.mp e]; trivial
theorem ok_three {n : Nat} {a b c : PyData} (ha : okE n a) (hb : okE n b) (hc : okE n c) : okE (n + 1) (.list [a, b, c]) := by
  refine ⟨by show 3 ≤ 100000; decide, fun x hx => ?_⟩
  rcases List.mem_cons.mp hx with e | e
  · rw [e]; exact ha
  · rcases List.mem_cons.mp e with e | e
    · rw [e]; exact hb
    · rw [List.mem_singleton.mp e]; exact hc
theorem ok_two {n : Nat} {a b : PyData} (ha : okE n a) (hb : okE n b) : okE (n + 1) (.list [a, b]) := by
  refine ⟨by show 2 ≤ 100000; decide, fun x hx => ?_⟩
  rcases List.mem_cons.mp hx with e | e
  · rw [e]; exact ha
  · rw [List.mem_singleton.mp e]; exact hb
theorem GameSt.dp {K : PySem.W.Frag} {H : Hp} {p C dx wt pt : Addr} {al u v : List Nat} {r : Nat} {prs : Prs} {qs : List Addr} (g : GameSt H p C dx wt pt al u v r prs qs) : Dp K H (.ref pt) (.tuple (prs.map prD)) := .tup (SqT.of g.t) (dp_pairs g.q)
structure GameC (P : Program) (w : World) (K : PySem.W.Frag) (mg : Str → Option Value) (base : Heap) (C : Addr) : Prop where
  T : GameT K mg C
  S : SameT mg
  wins : MCal P w K mg base C "wins" 7 ["self"] (spWins C)
  attack : MCal P w K mg base C "attack" 7 ["self"] (spAttack C)
  reply : MCal P w K mg base C "reply" 7 ["self", "side", "place"] (spReply C)
  play : MCal P w K mg base C "play" 3 ["self", "side", "place", "answer"] (spPlay C)
  back : MCal P w K mg base C "back" 1 ["self"] (spBack C)
  same : Cal P w K mg base "_law_same" 4 ["actual", "expected"] (spSame K 4)
  fit : Cal P w K mg base "_law_fit" 2 ["words", "pairs"] (spFit K)
  place : Cal P w K mg base "_law_place" 1 ["place", "word"] spLPlace
  aimed : Cal P w K mg base "_law_aimed" 2 ["told", "words"] (spAimed K)
  pair : Cal P w K mg base "_law_pair" 1 ["side", "place", "answer"] spPair
abbrev sDefended : Stmt := top 28
theorem scDefended : FnScope ["game", "words", "left", "pairs", "side", "place", "answer"] ["game", "words", "left", "pairs"] (defScope sDefended) := ⟨rfl, rfl, rfl, by decide +kernel, rfl, by decide +kernel, by decide +kernel⟩
/-- the strategy of one player is told: whose is said by the flag -/
def spStrat (K : PySem.W.Frag) (C : Addr) (A : Prop → Prop) (n : Nat) : Sp := fun vs H Q _ => ∃ (p dx wt pt W a : Addr) (al u v : List Nat) (r : Nat) (prs : Prs) (qs : List Addr), vs = [.ref p, .ref W, .int (n : Int), .ref a] ∧ GameSt H p C dx wt pt al u v r prs qs ∧ SqT K H W [.str (S u), .str (S v)] ∧ PairsAt H a prs ∧
  u.length ≤ 60 ∧ v.length ≤ 60 ∧ r ≤ 3 ∧ prs.length + n = r ∧ Inb u.length v.length prs ∧ A (Win n u v prs) ∧ ∀ H' pt' qs', But p H H' → GameSt H' p C dx wt pt' al u v r prs qs' → Q (.bl true) H'
section
variable {P : Program} {w : World} {K : PySem.W.Frag} {mg : Str → Option Value} {base : Heap}
def spS (K : PySem.W.Frag) (C : Addr) (A : Prop → Prop) : Nat → Sp
  | 0 => fun _ _ _ _ => False
  | n + 1 => spStrat K C A n
theorem strat0 {C : Addr} {A : Prop → Prop} {f : Addr} {fd : FuncData} {j : Nat} {ps : List Str} : FnOk P w K mg base CX0 j f fd ps (spS K C A 0) :=
  ⟨fun vs H Q E h => h.elim, fun A outer s H args us vs Q E _ _ _ _ h => h.elim⟩
theorem same_true {K : PySem.W.Frag} {H : Hp} {d : PyData} {Q : VK} {x y : V} {E : XK} (hx : Dp K H x d) (hy : Dp K H y d) (ok : okE 4 d) (q : ∀ H', Same H H' → Q (.bl true) H') : spSame K 4 [x, y] H Q E :=
  ⟨x, y, d, d, rfl, hx, hy, ok, fun b H' s hb => by obtain rfl : b = true := hb.mpr rfl; exact q H' s⟩
theorem ok_defended {k : Nat} {f C : Addr} {fd : FuncData} (F : Fun K "_law_defended" "_law_defended" sDefended f fd) (c : GameC P w K mg base C) (cr : Cal P w K mg base "_law_defended" (7 + k) ["game", "words", "left", "pairs"] (spS K C (fun x => x) k)) :
    FnOk P w K mg base CX0 (7 + k + 1) f fd ["game", "words", "left", "pairs"] (spS K C (fun x => x) (k + 1)) := by
  refine F.ok scDefended (fun vs H Q E h => ?_) (fun cdv A outer s H vs Q E hr h => ?_)
  · obtain ⟨p, dx, wt, pt, W, a, al, u, v, r, prs, qs, rfl, _⟩ := h
    rfl
  obtain ⟨p, dx, wt, pt, W, a, al, u, v, r, prs, qs, rfl, G, hW, hP, hu, hv, hr3, hrn, hin, hwin, q⟩ := h
  obtain ⟨f1, fd1, F1, m1, b1⟩ := c.wins.ex
  obtain ⟨f2, fd2, F2, m2, b2⟩ := c.attack.ex
  obtain ⟨f3, fd3, F3, m3, b3⟩ := c.reply.ex
  obtain ⟨f4, fd4, F4, m4, b4⟩ := c.play.ex
  obtain ⟨f5, fd5, F5, m5, b5⟩ := c.back.ex
  have hr7 := hr.mono (show 7 ≤ 7 + k by omega)
  refine ⟨_, (pss_cons (ps_if (pt_not (pt_val (pcall c.same hr7 (pa_cons (pe_lst (pa_cons (pe_meth0 (pv 0) c.T.cl m1 F1 hr7 b1 .nil pass0) (pa_cons (pe_meth0 (pv 0) c.T.cl m2 F2 hr7 b2 .nil pass0) (pa_cons (pe_fld (pv 0) rfl) pa_nil)))) (pa_cons (pe_lst (pa_cons pe_bl (pa_cons pe_non (pa_cons (pT1 (r := rTupOf K) cr_tupOf c.S.tuple (pv 3)) pa_nil)))) pa_nil)))))
      pss_never
      pss_nil)
    (pss_cons (ps_if (pt_cmpR op_eq (pv 2) pe_int (nomark _))
      (pss_one (ps_ret (pcall c.fit hr7 (pa_cons (pv 1) (pa_cons (pv 3) pa_nil)))))
      pss_nil)
    (pss_cons (ps_for PassesOwn.never rfl (pi_range1 (by rfl) c.S.range (pa_cons pe_int pa_nil)) (pg_name (i := 4) scDefended.nd rfl (Or.inl rfl))
      (pss_one (ps_for PassesOwn.never rfl (pi_range1 (by rfl) c.S.range (pa_cons (pe_op op_add (pB1 call_len_str c.S.len (pixT (pv 1) (pv 4))) pe_int) pa_nil)) (pg_name (i := 5) scDefended.nd rfl (Or.inl rfl))
        (pss_cons (ps_set (i := 6) scDefended.nd rfl (Or.inl rfl) (pe_meth (pv 0) c.T.cl m3 F3 hr7 b3 .nil pass0 (pa_cons (pv 4) (pa_cons (pv 5) pa_nil))))
        (pss_cons (ps_if (PW.pt (pw_or (pt_not (pt_val (pcall c.place hr7 (pa_cons (pv 6) (pa_cons (pixT (pv 1) (pe_op op_sub pe_int (pv 4))) pa_nil))))) (pw_or1 (pt_cmpR op_notN (pe_meth (pv 0) c.T.cl m4 F4 (hr7.mono (by decide)) b4 .nil pass0 (pa_cons (pv 4) (pa_cons (pv 5) (pa_cons (pv 6) pa_nil)))) pe_non (nomark _)))))
          pss_never
          pss_nil)
        (pss_cons (ps_if (pt_not (pt_val (pcall cr hr (pa_cons (pv 0) (pa_cons (pv 1) (pa_cons (pe_op op_sub (pv 2) pe_int) (pa_cons (pe_op op_cat (pv 3) (pe_lst (pa_cons (pcall c.pair hr7 (pa_cons (pv 4) (pa_cons (pv 5) (pa_cons (pv 6) pa_nil)))) pa_nil))) pa_nil)))) (hk := Nat.le_refl _))))
          pss_never
          pss_nil)
        (pss_one (ps_if (pt_not (pt_val (pcall c.same hr7 (pa_cons (pe_meth0 (pv 0) c.T.cl m5 F5 (hr7.mono (by decide)) b5 .nil pass0) (pa_cons pe_bl pa_nil)))))
          pss_never
          pss_nil))))))))
    (pss_one (ps_ret pe_bl))))), ?_⟩
  refine ⟨_, rfl, p, dx, _, rfl, G.o, gf_no _ _ _ _ (by decide +kernel), p, dx, wt, pt, al, u, v, r, prs, qs, rfl, G, hu, hv, hr3, by omega, hin, fun bw H1 s1 hbw => ?_⟩
  have en : r - prs.length = k := by omega
  rw [en] at hbw
  obtain rfl : bw = true := hbw.mpr hwin
  have G1 := G.mono s1
  refine ⟨_, rfl, p, dx, _, rfl, G1.o, gf_no _ _ _ _ (by decide +kernel), p, dx, wt, pt, al, u, v, r, prs, qs, rfl, G1, hu, hv, hr3, by omega, hin, fun o y H2 s2 ho hy => ?_⟩
  obtain rfl := attack_none hwin hrn ho
  obtain rfl : y = .non := hy
  have G2 := G1.mono s2
  refine ⟨_, rfl, p, C, dx, _, _, rfl, G2.o, c.T.cl, c.T.nP, gf_pairs _ _ _ _, by show 3 ≤ sizeLine; decide, fun l hl => ?_⟩
  have s3 := same_new hl (.lst [.bl true, .non, .ref pt])
  have s13 := s1.trans (s2.trans s3)
  obtain ⟨ts, hts, hpq⟩ := hP.mono s13
  refine ⟨_, rfl, a, _, rfl, .inl ⟨SqL.of hts, fun tp htp => ?_⟩⟩
  have s4 := same_new htp (.tup (ts.map V.ref))
  refine ⟨by show 3 ≤ sizeLine; decide, fun l2 hl2 => ?_⟩
  have s5 := same_new hl2 (.lst [.bl true, .non, .ref tp])
  have s45 := s4.trans s5
  have d1 := dp_mono (s3.trans s45) (G2.dp (K := K))
  have d2 : Dp K _ (.ref tp) (.tuple (prs.map prD)) := .tup (SqT.of (s5 _ _ upd_same)) (dp_pairs (Paired.mapP hpq fun _ _ z => s45 _ _ z))
  have ok4 : okE 4 (.list [.bool true, .none, .tuple (prs.map prD)]) := ok_three trivial trivial (okE_pairs (by omega))
  refine ⟨_, _, _, _, rfl, .lst (SqL.of (s45 _ _ upd_same)) (.cons (.bl true) (.cons .non (.cons d1 .nil))), .lst (SqL.of upd_same) (.cons (.bl true) (.cons .non (.cons d2 .nil))), ok4, fun b6 H6 s6 hb6 => ⟨_, rfl, ?_⟩⟩
  obtain rfl : b6 = true := hb6.mpr rfl
  refine ite2 (fun z => (nomatch z)) (fun _ => ?_)
  have s16 : Same H H6 := s13.trans (s45.trans s6)
  have G6 := G.mono s16
  have hP6 := hP.mono s16
  have hW6 := seqT s16 hW
  refine ⟨_, rfl, rfl, _, rfl, ?_⟩
  refine ite2 (fun e => ?_) (fun e => ?_)
  · have k0 : k = 0 := by have := int_eq e; omega
    subst k0
    refine ⟨_, rfl, _, rfl, W, a, u, v, prs, rfl, hW6, hP6, hin, hu, hv, by omega, fun b H7 s7 hb => ?_⟩
    obtain rfl : b = true := hb.mpr hwin
    exact q H7 pt qs (But.of (s16.trans s7)) (G6.mono s7)
  obtain ⟨n, rfl⟩ : ∃ n, k = n + 1 := ⟨k - 1, by
    have : k ≠ 0 := fun z => e (decide_eq_true (by rw [z]; rfl))
    omega⟩
  refine ⟨_, rfl, by omega, by omega, ?_⟩
  refine for_range (lo := 0) (n := (2 : Int).toNat) (fun i σ H' => ∃ (y4 y5 y6 : Option V) (pt' : Addr) (qs' : List Addr), σ = [some (.ref p), some (.ref W), some (.int ((n + 1 : Nat) : Int)), some (.ref a), y4, y5, y6] ∧ But p H H' ∧ GameSt H' p C dx wt pt' al u v r prs qs') ⟨none, none, none, pt, qs, rfl, But.of s16, G6⟩ ?_ ?_
  · rintro i σ H7 hi ⟨y4, y5, y6, pt7, qs7, rfl, b7, G7⟩
    have hi1 : i ≤ 1 := by have : (2 : Int).toNat = 2 := rfl; omega
    have ei : V.int (0 + (i : Int)) = natV i := by unfold natV; rw [Int.zero_add]
    have hW7 := b7.insT G.o hW
    have hz := wd_len (s := i) hu hv
    refine ⟨_, rfl, _, rfl, W, _, _, _, rfl, rfl, hW7, by rw [Int.zero_add]; exact wd_at u v hi1, _, rfl, sz (by rw [S_len]; omega), _, _, rfl, rfl, _, rfl, by rw [S_len]; omega, by rw [S_len]; omega, ?_⟩
    have eN : (((S (wd u v i)).length : Int) + 1).toNat = (wd u v i).length + 1 := by rw [S_len]; omega
    rw [eN]
    refine for_range (lo := 0) (n := (wd u v i).length + 1) (fun j σ H' => ∃ (y5 y6 : Option V) (pt' : Addr) (qs' : List Addr), σ = [some (.ref p), some (.ref W), some (.int ((n + 1 : Nat) : Int)), some (.ref a), some (natV i), y5, y6] ∧ But p H H' ∧ GameSt H' p C dx wt pt' al u v r prs qs') ⟨_, _, pt7, qs7, by rw [← ei] <;> rfl, b7, G7⟩ ?_ ?_
    · rintro j σ H8 hj ⟨y5, y6, pt8, qs8, rfl, b8, G8⟩
      have hjl : j ≤ (wd u v i).length := by omega
      -- reply
      refine ⟨_, rfl, p, dx, _, rfl, G8.o, gf_no _ _ _ _ (by decide +kernel), _, rfl, _, rfl, p, dx, wt, pt8, al, u, v, r, i, j, prs, qs8, by rw [Int.zero_add] <;> rfl, G8, hu, hv, hr3, hi1, by omega, hin, hjl, fun o H9 s9 ho => ?_⟩
      have en2 : r - prs.length - 1 = n := by omega
      rw [en2] at ho
      obtain ⟨y, rfl, hyl, hwy⟩ := reply_some hwin hi1 hjl ho
      have G9 := G8.mono s9
      have b9 := b8.same s9
      have hW9 := b9.insT G.o hW
      have hz1 := wd_len (s := 1 - i) hu hv
      -- place, play
      refine ⟨_, rfl, _, rfl, _, rfl, _, _, rfl, rfl, W, _, _, _, rfl, rfl, hW9, wd_at1 u v hi1, y, wd u v (1 - i), rfl, hyl, by omega, _, rfl, ?_⟩
      refine ite2 (fun z => (nomatch z)) (fun _ => ?_)
      refine ⟨_, rfl, p, dx, _, rfl, G9.o, gf_no _ _ _ _ (by decide +kernel), _, rfl, _, rfl, _, rfl, p, dx, wt, pt8, al, u, v, r, i, j, y, prs, qs8, by rw [Int.zero_add] <;> rfl, G9, hu, hv, hr3, hi1, by omega, hjl, hyl, fun H10 pt10 qs10 b10 G10 => ⟨rfl, _, rfl, ?_⟩⟩
      refine ite2 (fun z => (nomatch z)) (fun _ => ?_)
      have bb10 := b9.trans b10
      have hP10 := hP.but bb10 G.o
      have hW10 := bb10.insT G.o hW
      -- the recursion
      refine ⟨_, rfl, _, rfl, _, rfl, _, _, rfl, rfl, _, rfl, _, rfl, _, rfl, _, rfl, i, j, y, by rw [Int.zero_add] <;> rfl, hi1, fun t H11 s11 ht11 => ?_⟩
      refine ⟨by show 1 ≤ sizeLine; decide, fun l1 hl1 => ?_⟩
      have s12 := same_new hl1 (.lst [.ref t])
      obtain ⟨ts10, hts10, hpq10⟩ := hP10
      have hlen10 : ts10.length = prs.length := Paired.length hpq10
      refine ⟨a, l1, ts10.map V.ref, [.ref t], rfl, rfl, s12 _ _ (s11 _ _ hts10), upd_same, small_lt (by rw [List.length_map]; show ts10.length + 1 < 100000; omega) |> Nat.le_of_lt, fun l3 hl3 => ?_⟩
      have s13' := same_new hl3 (.lst (ts10.map V.ref ++ [.ref t]))
      have sx := s11.trans (s12.trans s13')
      have G13 := G10.mono sx
      refine ⟨p, dx, wt, pt10, W, l3, al, u, v, r, prs ++ [mkp i j y], qs10, congrArg (fun z => [V.ref p, V.ref W, V.int z, V.ref l3]) (by omega), G13, seqT sx hW10, ⟨ts10 ++ [t], by rw [upd_same, List.map_append] <;> rfl, paired_snoc (Paired.mapP hpq10 fun _ _ z => sx _ _ z) ((s12.trans s13') _ _ ht11)⟩, hu, hv, hr3, by rw [List.length_append]; show prs.length + 1 + n = r; omega, inb_snoc hin hjl hi1 hyl, hwy, fun H14 pt14 qs14 b14 G14 => ⟨_, rfl, ?_⟩⟩
      refine ite2 (fun z => (nomatch z)) (fun _ => ?_)
      have bb14 := (bb10.same sx).trans b14
      -- back
      refine ⟨_, rfl, p, dx, _, rfl, G14.o, gf_no _ _ _ _ (by decide +kernel), p, dx, wt, pt14, al, u, v, r, prs ++ [mkp i j y], qs14, rfl, G14, fun z => absurd z (by simp), fun _ H15 pt15 qs15 b15 G15 => ?_⟩
      rw [List.dropLast_concat] at G15
      refine ⟨.bl true, .bl true, .bool true, .bool true, rfl, .bl true, .bl true, trivial, fun b16 H16 s16 hb16 => ⟨_, rfl, ?_⟩⟩
      obtain rfl : b16 = true := hb16.mpr rfl
      refine ite2 (fun z => (nomatch z)) (fun _ => ?_)
      exact ⟨_, _, pt15, qs15, rfl, (bb14.trans b15).same s16, G15.mono s16⟩
    · rintro σ H8 ⟨y5, y6, pt8, qs8, rfl, b8, G8⟩
      exact ⟨_, _, _, pt8, qs8, rfl, b8, G8⟩
  · rintro σ H7 ⟨y4, y5, y6, pt7, qs7, rfl, b7, G7⟩
    exact q H7 pt7 qs7 b7 G7
end
end W8

set_option Elab.async false
set_option linter.all false
set_option maxRecDepth 100000
set_option maxHeartbeats 4000000
namespace W8
open PySem L2 NK GM
abbrev sAttacked : Stmt := top 29
theorem scAttacked : FnScope ["game", "words", "left", "pairs", "told", "answer"] ["game", "words", "left", "pairs"] (defScope sAttacked) := ⟨rfl, rfl, rfl, by decide +kernel, rfl, by decide +kernel, by decide +kernel⟩
section
variable {P : Program} {w : World} {K : PySem.W.Frag} {mg : Str → Option Value} {base : Heap}
theorem ok_attacked {k : Nat} {f C : Addr} {fd : FuncData} (F : Fun K "_law_attacked" "_law_attacked" sAttacked f fd) (c : GameC P w K mg base C) (cr : Cal P w K mg base "_law_attacked" (7 + k) ["game", "words", "left", "pairs"] (spS K C Not k)) :
    FnOk P w K mg base CX0 (7 + k + 1) f fd ["game", "words", "left", "pairs"] (spS K C Not (k + 1)) := by
  refine F.ok scAttacked (fun vs H Q E h => ?_) (fun cdv A outer s H vs Q E hr h => ?_)
  · obtain ⟨p, dx, wt, pt, W, a, al, u, v, r, prs, qs, rfl, _⟩ := h
    rfl
  obtain ⟨p, dx, wt, pt, W, a, al, u, v, r, prs, qs, rfl, G, hW, hP, hu, hv, hr3, hrn, hin, hwin, q⟩ := h
  obtain ⟨f1, fd1, F1, m1, b1⟩ := c.wins.ex
  obtain ⟨f2, fd2, F2, m2, b2⟩ := c.attack.ex
  obtain ⟨f3, fd3, F3, m3, b3⟩ := c.reply.ex
  obtain ⟨f4, fd4, F4, m4, b4⟩ := c.play.ex
  obtain ⟨f5, fd5, F5, m5, b5⟩ := c.back.ex
  have hr7 := hr.mono (show 7 ≤ 7 + k by omega)
  refine ⟨_, (pss_cons (ps_set (i := 4) scAttacked.nd rfl (Or.inl rfl) (pe_meth0 (pv 0) c.T.cl m2 F2 hr7 b2 .nil pass0))
    (pss_cons (ps_if (pt_not (pt_val (pcall c.same hr7 (pa_cons (pe_lst (pa_cons (pe_meth0 (pv 0) c.T.cl m1 F1 hr7 b1 .nil pass0) (pa_cons (pe_fld (pv 0) rfl) pa_nil))) (pa_cons (pe_lst (pa_cons pe_bl (pa_cons (pT1 (r := rTupOf K) cr_tupOf c.S.tuple (pv 3)) pa_nil))) pa_nil)))))
      pss_never
      pss_nil)
    (pss_cons (ps_if (pt_cmpR op_eq (pv 2) pe_int (nomark _))
      (pss_one (ps_ret (pe_and (pe_cmpR op_isN (pv 4) pe_non (nomark _)) (pe_one (pe_not (pcall c.fit hr7 (pa_cons (pv 1) (pa_cons (pv 3) pa_nil))))))))
      pss_nil)
    (pss_cons (ps_if (PW.pt (pw_or (pt_not (pt_val (pcall c.aimed hr7 (pa_cons (pv 4) (pa_cons (pv 1) pa_nil))))) (pw_or1 (pt_cmpR op_notN (pe_meth (pv 0) c.T.cl m3 F3 hr7 b3 .nil pass0 (pa_cons (pixT (pv 4) pe_int) (pa_cons (pixT (pv 4) pe_int) pa_nil))) pe_non (nomark _)))))
      pss_never
      pss_nil)
    (pss_cons (ps_for PassesOwn.never rfl (pi_range1 (by rfl) c.S.range (pa_cons (pe_op op_add (pB1 call_len_str c.S.len (pixT (pv 1) (pe_op op_sub pe_int (pixT (pv 4) pe_int)))) pe_int) pa_nil)) (pg_name (i := 5) scAttacked.nd rfl (Or.inl rfl))
      (pss_cons (ps_if (pt_cmpR op_notN (pe_meth (pv 0) c.T.cl m4 F4 (hr7.mono (by decide)) b4 .nil pass0 (pa_cons (pixT (pv 4) pe_int) (pa_cons (pixT (pv 4) pe_int) (pa_cons (pv 5) pa_nil)))) pe_non (nomark _))
        pss_never
        pss_nil)
      (pss_cons (ps_if (pt_not (pt_val (pcall cr hr (pa_cons (pv 0) (pa_cons (pv 1) (pa_cons (pe_op op_sub (pv 2) pe_int) (pa_cons (pe_op op_cat (pv 3) (pe_lst (pa_cons (pcall c.pair hr7 (pa_cons (pixT (pv 4) pe_int) (pa_cons (pixT (pv 4) pe_int) (pa_cons (pv 5) pa_nil)))) pa_nil))) pa_nil)))) (hk := Nat.le_refl _))))
        pss_never
        pss_nil)
      (pss_one (ps_if (pt_not (pt_val (pcall c.same hr7 (pa_cons (pe_meth0 (pv 0) c.T.cl m5 F5 (hr7.mono (by decide)) b5 .nil pass0) (pa_cons pe_bl pa_nil)))))
        pss_never
        pss_nil)))))
    (pss_one (ps_ret pe_bl))))))), ?_⟩
  refine ⟨_, rfl, p, dx, _, rfl, G.o, gf_no _ _ _ _ (by decide +kernel), p, dx, wt, pt, al, u, v, r, prs, qs, rfl, G, hu, hv, hr3, by omega, hin, fun o told H0 s0 ho hto => ?_⟩
  have G0 := G.mono s0
  refine ⟨_, rfl, p, dx, _, rfl, G0.o, gf_no _ _ _ _ (by decide +kernel), p, dx, wt, pt, al, u, v, r, prs, qs, rfl, G0, hu, hv, hr3, by omega, hin, fun bw H2 s02 hbw => ?_⟩
  have s2 := s0.trans s02
  have en : r - prs.length = k := by omega
  rw [en] at hbw
  obtain rfl : bw = false := Bool.eq_false_iff.mpr fun z => hwin (hbw.mp z)
  have G2 := G.mono s2
  refine ⟨_, rfl, p, C, dx, _, _, rfl, G2.o, c.T.cl, c.T.nP, gf_pairs _ _ _ _, by show 2 ≤ sizeLine; decide, fun l hl => ?_⟩
  have s3 := same_new hl (.lst [.bl false, .ref pt])
  have s13 := s2.trans s3
  obtain ⟨ts, hts, hpq⟩ := hP.mono s13
  refine ⟨_, rfl, a, _, rfl, .inl ⟨SqL.of hts, fun tp htp => ?_⟩⟩
  have s4 := same_new htp (.tup (ts.map V.ref))
  refine ⟨by show 2 ≤ sizeLine; decide, fun l2 hl2 => ?_⟩
  have s5 := same_new hl2 (.lst [.bl false, .ref tp])
  have s45 := s4.trans s5
  have d1 := dp_mono (s3.trans s45) (G2.dp (K := K))
  have d2 : Dp K _ (.ref tp) (.tuple (prs.map prD)) := .tup (SqT.of (s5 _ _ upd_same)) (dp_pairs (Paired.mapP hpq fun _ _ z => s45 _ _ z))
  have ok4 : okE 4 (.list [.bool false, .tuple (prs.map prD)]) := ok_two trivial (okE_pairs (by omega))
  refine ⟨_, _, _, _, rfl, .lst (SqL.of (s45 _ _ upd_same)) (.cons (.bl false) (.cons d1 .nil)), .lst (SqL.of upd_same) (.cons (.bl false) (.cons d2 .nil)), ok4, fun b6 H6 s6 hb6 => ⟨_, rfl, ?_⟩⟩
  obtain rfl : b6 = true := hb6.mpr rfl
  refine ite2 (fun z => (nomatch z)) (fun _ => ?_)
  have s16 : Same H H6 := s13.trans (s45.trans s6)
  have s06 : Same H0 H6 := (s02.trans s3).trans (s45.trans s6)
  have G6 := G.mono s16
  have hP6 := hP.mono s16
  have hW6 := seqT s16 hW
  refine ⟨_, rfl, rfl, _, rfl, ?_⟩
  refine ite2 (fun e => ?_) (fun e => ?_)
  · have k0 : k = 0 := by have := int_eq e; omega
    subst k0
    obtain rfl : o = none := by
      match o, ho with
      | none, _ => rfl
      | some (s, x), ⟨h, _⟩ => omega
    obtain rfl : told = .non := hto
    refine ⟨_, rfl, rfl, _, rfl, _, rfl, _, rfl, W, a, u, v, prs, rfl, hW6, hP6, hin, hu, hv, by omega, fun b H7 s7 hb => ⟨_, rfl, ?_⟩⟩
    obtain rfl : b = false := Bool.eq_false_iff.mpr fun z => hwin (hb.mp z)
    exact q H7 pt qs (But.of (s16.trans s7)) (G6.mono s7)
  obtain ⟨n, rfl⟩ : ∃ n, k = n + 1 := ⟨k - 1, by
    have : k ≠ 0 := fun z => e (decide_eq_true (by rw [z]; rfl))
    omega⟩
  obtain ⟨i, j, rfl, hi1, hjl, hno⟩ := attack_some hwin hrn ho
  obtain ⟨t, rfl, ht0⟩ := hto
  have ht6 := s06 _ _ ht0
  have hz := wd_len (s := i) hu hv
  have hz1 := wd_len (s := 1 - i) hu hv
  -- aimed, reply
  refine ⟨_, rfl, _, rfl, t, W, u, v, i, j, rfl, ht6, hW6, hu, hv, hi1, hjl, fun H7 s7 => ⟨_, rfl, ?_⟩⟩
  refine ite2 (fun z => (nomatch z)) (fun _ => ?_)
  have ht7 := s7 _ _ ht6
  have G7 := G6.mono s7
  refine ⟨_, rfl, p, dx, _, rfl, G7.o, gf_no _ _ _ _ (by decide +kernel), _, rfl, t, _, 0, natV i, rfl, rfl, SqT.of ht7, rfl, _, rfl, t, _, 1, natV j, rfl, rfl, SqT.of ht7, rfl, p, dx, wt, pt, al, u, v, r, i, j, prs, qs, rfl, G7, hu, hv, hr3, hi1, by omega, hin, hjl, fun o2 H8 s8 ho2 => ?_⟩
  have en2 : r - prs.length - 1 = n := by omega
  rw [en2] at ho2
  obtain rfl := reply_none hno ho2
  refine ⟨rfl, _, rfl, ite2 (fun z => (nomatch z)) (fun _ => ?_)⟩
  have s18 := s16.trans (s7.trans s8)
  have ht8 := s8 _ _ ht7
  have G8 := G7.mono s8
  have hW8 := seqT s18 hW
  -- the answers
  refine ⟨_, rfl, _, rfl, t, _, 0, natV i, rfl, rfl, SqT.of ht8, rfl, _, _, rfl, rfl, W, _, _, _, rfl, rfl, hW8, wd_at1 u v hi1, _, rfl, sz (by rw [S_len]; omega), _, _, rfl, rfl, _, rfl, by rw [S_len]; omega, by rw [S_len]; omega, ?_⟩
  have eN : (((S (wd u v (1 - i))).length : Int) + 1).toNat = (wd u v (1 - i)).length + 1 := by rw [S_len]; omega
  rw [eN]
  refine for_range (lo := 0) (n := (wd u v (1 - i)).length + 1) (fun y σ H' => ∃ (y5 : Option V) (pt' : Addr) (qs' : List Addr), σ = [some (.ref p), some (.ref W), some (.int ((n + 1 : Nat) : Int)), some (.ref a), some (.ref t), y5] ∧ But p H8 H' ∧ GameSt H' p C dx wt pt' al u v r prs qs') ⟨none, pt, qs, rfl, But.refl _ _, G8⟩ ?_ ?_
  · rintro y σ H9 hy ⟨y5, pt9, qs9, rfl, b9, G9⟩
    have hyl : y ≤ (wd u v (1 - i)).length := by omega
    have ht9 := b9 _ _ (ne_of ht8 G8.o (by intro z; cases z)) ht8
    refine ⟨_, rfl, p, dx, _, rfl, G9.o, gf_no _ _ _ _ (by decide +kernel), _, rfl, t, _, 0, natV i, rfl, rfl, SqT.of ht9, rfl, _, rfl, t, _, 1, natV j, rfl, rfl, SqT.of ht9, rfl, _, rfl, p, dx, wt, pt9, al, u, v, r, i, j, y, prs, qs9, by rw [Int.zero_add] <;> rfl, G9, hu, hv, hr3, hi1, by omega, hjl, hyl, fun H10 pt10 qs10 b10 G10 => ⟨rfl, _, rfl, ?_⟩⟩
    refine ite2 (fun z => (nomatch z)) (fun _ => ?_)
    have b810 := b9.trans b10
    have bb10 := (But.of s18).trans b810
    have hP10 := hP.but bb10 G.o
    have hW10 := bb10.insT G.o hW
    have ht10 := b810 _ _ (ne_of ht8 G8.o (by intro z; cases z)) ht8
    refine ⟨_, rfl, _, rfl, _, rfl, _, _, rfl, rfl, _, rfl, _, rfl, t, _, 0, natV i, rfl, rfl, SqT.of ht10, rfl, _, rfl, t, _, 1, natV j, rfl, rfl, SqT.of ht10, rfl, _, rfl, i, j, y, by rw [Int.zero_add] <;> rfl, hi1, fun t2 H11 s11 ht11 => ?_⟩
    refine ⟨by show 1 ≤ sizeLine; decide, fun l1 hl1 => ?_⟩
    have s12 := same_new hl1 (.lst [.ref t2])
    obtain ⟨ts10, hts10, hpq10⟩ := hP10
    have hlen10 : ts10.length = prs.length := Paired.length hpq10
    refine ⟨a, l1, ts10.map V.ref, [.ref t2], rfl, rfl, s12 _ _ (s11 _ _ hts10), upd_same, small_lt (by rw [List.length_map]; show ts10.length + 1 < 100000; omega) |> Nat.le_of_lt, fun l3 hl3 => ?_⟩
    have s13' := same_new hl3 (.lst (ts10.map V.ref ++ [.ref t2]))
    have sx := s11.trans (s12.trans s13')
    have G13 := G10.mono sx
    refine ⟨p, dx, wt, pt10, W, l3, al, u, v, r, prs ++ [mkp i j y], qs10, congrArg (fun z => [V.ref p, V.ref W, V.int z, V.ref l3]) (by omega), G13, seqT sx hW10, ⟨ts10 ++ [t2], by rw [upd_same, List.map_append] <;> rfl, paired_snoc (Paired.mapP hpq10 fun _ _ z => sx _ _ z) ((s12.trans s13') _ _ ht11)⟩, hu, hv, hr3, by rw [List.length_append]; show prs.length + 1 + n = r; omega, inb_snoc hin hjl hi1 hyl, hno y hyl, fun H14 pt14 qs14 b14 G14 => ⟨_, rfl, ?_⟩⟩
    refine ite2 (fun z => (nomatch z)) (fun _ => ?_)
    have bb14 := (b810.same sx).trans b14
    refine ⟨_, rfl, p, dx, _, rfl, G14.o, gf_no _ _ _ _ (by decide +kernel), p, dx, wt, pt14, al, u, v, r, prs ++ [mkp i j y], qs14, rfl, G14, fun z => absurd z (by simp), fun _ H15 pt15 qs15 b15 G15 => ?_⟩
    rw [List.dropLast_concat] at G15
    refine ⟨.bl true, .bl true, .bool true, .bool true, rfl, .bl true, .bl true, trivial, fun b16 H16 s16' hb16 => ⟨_, rfl, ?_⟩⟩
    obtain rfl : b16 = true := hb16.mpr rfl
    refine ite2 (fun z => (nomatch z)) (fun _ => ?_)
    exact ⟨_, pt15, qs15, rfl, (bb14.trans b15).same s16', G15.mono s16'⟩
  · rintro σ H9 ⟨y5, pt9, qs9, rfl, b9, G9⟩
    exact q H9 pt9 qs9 ((But.of s18).trans b9) G9
end
end W8

set_option Elab.async false
set_option linter.all false
set_option maxRecDepth 100000
set_option maxHeartbeats 4000000
namespace W8
open PySem L2 NK GM
abbrev sWords_drawn : Stmt := top 31
theorem scWords_drawn : FnScope ["state", "letters", "one", "way", "letter", "at", "last", "number"] ["state", "letters"] (defScope sWords_drawn) := ⟨rfl, rfl, rfl, by decide +kernel, rfl, by decide +kernel, by decide +kernel⟩
def spWords_drawn (K : PySem.W.Frag) : Sp := fun vs H Q _ => ∃ (a : Addr) (al : List Nat), vs = [.ref a, .str (S al)] ∧ al ≠ [] ∧ al.length ≤ 100 ∧ ∃ p, StOk K H a p ∧ ∀ (W : Addr) (u v : List Nat) H', u.length ≤ 8 → v.length ≤ 8 → (∀ c ∈ u, c ∈ al) → (∀ c ∈ v, c ∈ al) → But a H H' → StOk K H' a p → H' W = some (.tup [.str (S u), .str (S v)]) → Q (.ref W) H'
theorem cut_from (w : List Nat) (k : Nat) : cutS (S w) (some (k : Int)) none = S (w.drop k) := by
  unfold cutS
  rw [HT.sIx_none, HT.sIx_nat]
  show S ((w.drop (min k w.length)).take (w.length - min k w.length)) = S (w.drop k)
  congr 1
  by_cases h : k ≤ w.length
  · rw [Nat.min_eq_left h, List.take_of_length_le (by rw [List.length_drop]; exact Nat.le_refl _)]
  · rw [Nat.min_eq_right (by omega), List.drop_eq_nil_of_le (Nat.le_refl _), List.drop_eq_nil_of_le (by omega)]
    simp
theorem mem_drop {u al : List Nat} {k : Nat} (h : ∀ c ∈ u, c ∈ al) : ∀ c ∈ u.drop k, c ∈ al := fun c q => h c (List.mem_of_mem_drop q)
theorem mem_take {u al : List Nat} {k : Nat} (h : ∀ c ∈ u, c ∈ al) : ∀ c ∈ u.take k, c ∈ al := fun c q => h c (List.mem_of_mem_take q)
theorem mem_rep {al : List Nat} {x n : Nat} (h : x ∈ al) : ∀ c ∈ rep [x] n, c ∈ al := fun c q => by rw [List.mem_singleton.mp (rep_mem q)]; exact h
section
variable {P : Program} {w : World} {K : PySem.W.Frag} {mg : Str → Option Value} {base : Heap}
theorem ok_words_drawn {f : Addr} {fd : FuncData} (F : Fun K "_law_words_drawn" "_law_words_drawn" sWords_drawn f fd) (tl : mg "len" = none) (c_law_draw : Cal P w K mg base "_law_draw" 1 ["state", "many"] (spDraw K)) (c_law_word : Cal P w K mg base "_law_word" 2 ["state", "letters", "most"] (spWord K)) :
    FnOk P w K mg base CX0 3 f fd ["state", "letters"] (spWords_drawn K) := by
  refine F.ok scWords_drawn (fun vs H Q E h => ?_) (fun cdv A outer s H vs Q E hr h => ?_)
  · obtain ⟨a, al, rfl, _⟩ := h
    rfl
  obtain ⟨a, al, rfl, hne, hal, p, S0, q⟩ := h
  have hal1 : 1 ≤ al.length := List.length_pos_iff.mpr hne
  refine ⟨_, (pss_cons (ps_set (i := 2) scWords_drawn.nd rfl (Or.inl rfl) (pcall c_law_word hr (pa_cons (pv 0) (pa_cons (pv 1) (pa_cons pe_int pa_nil)))))
    (pss_cons (ps_set (i := 3) scWords_drawn.nd rfl (Or.inl rfl) (pcall c_law_draw hr (pa_cons (pv 0) (pa_cons pe_int pa_nil))))
    (pss_cons (ps_if (pt_cmpR op_eq (pv 3) pe_int (nomark _))
      (pss_one (ps_ret (pe_tup (pa_cons (pv 2) (pa_cons (pv 2) pa_nil)))))
      pss_nil)
    (pss_cons (ps_if (pt_cmpR op_eq (pv 3) pe_int (nomark _))
      (pss_one (ps_ret (pe_tup (pa_cons (pv 2) (pa_cons (pcall c_law_word hr (pa_cons (pv 0) (pa_cons (pv 1) (pa_cons pe_int pa_nil)))) pa_nil)))))
      pss_nil)
    (pss_cons (ps_set (i := 4) scWords_drawn.nd rfl (Or.inl rfl) (pixS (pv 1) (pcall c_law_draw hr (pa_cons (pv 0) (pa_cons (pB1 call_len_str tl (pv 1)) pa_nil)))))
    (pss_cons (ps_if (pt_cmpR op_eq (pv 3) pe_int (nomark _))
      (pss_cons (ps_set (i := 5) scWords_drawn.nd rfl (Or.inl rfl) (pcall c_law_draw hr (pa_cons (pv 0) (pa_cons (pe_op op_add (pB1 call_len_str tl (pv 2)) pe_int) pa_nil))))
      (pss_one (ps_ret (pe_tup (pa_cons (pv 2) (pa_cons (pe_op op_add_str (pe_op op_add_str (pe_slice sl_str (pv 2) po_none (po_some (pv 5))) (pv 4)) (pe_slice sl_str (pv 2) (po_some (pe_op op_add (pv 5) pe_int)) po_none)) pa_nil))))))
      pss_nil)
    (pss_cons (ps_set (i := 6) scWords_drawn.nd rfl (Or.inl rfl) (pcall c_law_word hr (pa_cons (pv 0) (pa_cons (pv 1) (pa_cons pe_int pa_nil)))))
    (pss_cons (ps_set (i := 7) scWords_drawn.nd rfl (Or.inl rfl) (pcall c_law_draw hr (pa_cons (pv 0) (pa_cons pe_int pa_nil))))
    (pss_one (ps_ret (pe_tup (pa_cons (pe_op op_add_str (pe_op op_add_str (pe_slice sl_str (pv 2) po_none (po_some pe_int)) (pe_op op_mulS (pv 4) (pv 7))) (pv 6)) (pa_cons (pe_op op_add_str (pe_op op_add_str (pe_slice sl_str (pv 2) po_none (po_some pe_int)) (pe_op op_mulS (pv 4) (pe_op op_add (pv 7) pe_int))) (pv 6)) pa_nil))))))))))))), ?_⟩
  have stup : ∀ {H1 : Hp} {W : Addr} (o : HO), StOk K H1 a p → H1 W = none → StOk K (upd H1 W o) a p := fun o s h => s.same (same_new h o)
  refine ⟨_, rfl, _, rfl, a, al, 3, rfl, hne, hal, by omega, by omega, _, S0, fun one H1 l1 m1 B1 S1 => ?_⟩
  refine ⟨_, rfl, a, 4, rfl, by omega, by omega, _, S1, fun way H2 w0 w1 B2 S2 => ?_⟩
  have B12 := B1.trans B2
  refine ⟨_, rfl, rfl, _, rfl, ?_⟩
  refine ite2 (fun _ => ?_) (fun _ => ?_)
  · refine ⟨_, rfl, _, rfl, by show 2 ≤ sizeLine; decide, fun W hW => ?_⟩
    exact q W one one _ (by omega) (by omega) m1 m1 (B12.same (same_new hW _)) (stup _ S2 hW) upd_same
  refine ⟨_, rfl, rfl, _, rfl, ?_⟩
  refine ite2 (fun _ => ?_) (fun _ => ?_)
  · refine ⟨_, rfl, _, rfl, _, rfl, a, al, 3, rfl, hne, hal, by omega, by omega, _, S2, fun two H3 l3 m3 B3 S3 => ?_⟩
    refine ⟨by show 2 ≤ sizeLine; decide, fun W hW => ?_⟩
    exact q W one two _ (by omega) (by omega) m1 m3 ((B12.trans B3).same (same_new hW _)) (stup _ S3 hW) upd_same
  refine ⟨_, rfl, _, rfl, _, rfl, _, rfl, by rw [S_len]; exact sz (by omega), a, (al.length : Int), rfl, by omega, by omega, _, S2, fun d H3 d0 d1 B3 S3 => ?_⟩
  obtain ⟨x, hx, _, hat⟩ := at_S (w := al) d0 d1
  refine ⟨_, _, x, rfl, rfl, by rw [S_len]; exact sz (by omega), hat, ?_⟩
  rw [S_one]
  have B13 := B12.trans B3
  refine ⟨_, rfl, rfl, _, rfl, ?_⟩
  refine ite2 (fun _ => ?_) (fun _ => ?_)
  · refine ⟨_, rfl, _, rfl, _, rfl, by rw [S_len]; exact sz (by omega), _, _, rfl, rfl, a, (one.length : Int) + 1, rfl, by omega, by omega, _, S3, fun k H4 k0 k1 B4 S4 => ?_⟩
    obtain ⟨n, rfl⟩ : ∃ n : Nat, k = (n : Int) := ⟨k.toNat, by omega⟩
    have e1 : cutS (S one) none (some (n : Int)) = S (one.take n) := cut_to one n
    have e2 : cutS (S one) (some ((n : Int) + 1)) none = S (one.drop (n + 1)) := cut_from one (n + 1)
    have lt1 : (one.take n).length ≤ 3 := by rw [List.length_take]; omega
    have lt2 : (one.drop (n + 1)).length ≤ 3 := by rw [List.length_drop]; omega
    refine ⟨_, rfl, _, rfl, _, rfl, _, rfl, _, rfl, sz (by rw [S_len]; omega), _, rfl, _, _, rfl, rfl, sz (by rw [e1, S_len]; show _ + 1 ≤ 100000; omega), _, rfl, _, rfl, _, _, rfl, rfl, _, rfl, _, rfl, sz (by rw [S_len]; omega), _, _, rfl, rfl, sz (by rw [e1, e2, S_app, S_len, S_len, List.length_append]; show _ + 1 + _ ≤ 100000; omega), ?_⟩
    rw [e1, e2, S_app, S_app]
    refine ⟨by show 2 ≤ sizeLine; decide, fun W hW => ?_⟩
    refine q W one (one.take n ++ [x] ++ one.drop (n + 1)) _ (by omega) (by rw [List.length_append, List.length_append]; show _ + 1 + _ ≤ 8; omega) m1 (alphOk_mem (alphOk_mem (mem_take m1) fun c h => by rw [List.mem_singleton.mp h]; exact hx) (mem_drop m1)) ((B13.trans B4).same (same_new hW _)) (stup _ S4 hW) upd_same
  refine ⟨_, rfl, _, rfl, a, al, 1, rfl, hne, hal, by omega, by omega, _, S3, fun last H4 l4 m4 B4 S4 => ?_⟩
  refine ⟨_, rfl, a, 4, rfl, by omega, by omega, _, S4, fun k H5 k0 k1 B5 S5 => ?_⟩
  obtain ⟨n, rfl⟩ : ∃ n : Nat, k = (n : Int) := ⟨k.toNat, by omega⟩
  have e1 : cutS (S one) none (some 1) = S (one.take 1) := cut_to one 1
  have em1 : Txt.mul (S [x]) (n : Int) = S (rep [x] n) := mul_S [x] n
  have em2 : Txt.mul (S [x]) ((n : Int) + 1) = S (rep [x] (n + 1)) := mul_S [x] (n + 1)
  have lt1 : (one.take 1).length ≤ 1 := by rw [List.length_take]; omega
  have lr : ∀ m, (rep [x] m).length = m := fun m => by rw [rep_length, List.length_singleton, Nat.mul_one]
  have hn3 : n ≤ 3 := by omega
  have ll : last.length ≤ 1 := by omega
  refine ⟨_, rfl, _, rfl, _, rfl, sz (by rw [S_len]; omega), _, rfl, _, rfl, _, _, rfl, rfl, by show 1 ≤ 1000; omega, by omega, by omega, _, _, rfl, rfl, sz (by rw [e1, em1, S_len, S_len, lr]; omega), _, rfl, _, _, rfl, rfl, sz (by rw [e1, em1, S_app, S_len, S_len, List.length_append, lr]; omega), ?_⟩
  refine ⟨_, rfl, _, rfl, _, rfl, sz (by rw [S_len]; omega), _, rfl, _, rfl, _, _, rfl, rfl, _, _, rfl, rfl, by show 1 ≤ 1000; omega, by omega, by omega, _, _, rfl, rfl, sz (by rw [e1, em2, S_len, S_len, lr]; omega), _, rfl, _, _, rfl, rfl, sz (by rw [e1, em2, S_app, S_len, S_len, List.length_append, lr]; omega), ?_⟩
  rw [e1, em1, em2, S_app, S_app, S_app, S_app]
  refine ⟨by show 2 ≤ sizeLine; decide, fun W hW => ?_⟩
  have mm : ∀ m, ∀ c ∈ one.take 1 ++ rep [x] m ++ last, c ∈ al := fun m => alphOk_mem (alphOk_mem (mem_take m1) (mem_rep hx)) m4
  exact q W _ _ _ (by rw [List.length_append, List.length_append, lr]; omega) (by rw [List.length_append, List.length_append, lr]; omega) (mm n) (mm (n + 1)) ((B13.trans (B4.trans B5)).same (same_new hW _)) (stup _ S5 hW) upd_same
end
end W8

set_option Elab.async false
set_option linter.all false
set_option maxRecDepth 100000
set_option maxHeartbeats 4000000
namespace W8
open PySem L2 NK GM
abbrev sLine : Stmt := top 30
theorem scLine : FnScope ["state", "game", "words", "rounds", "wins", "pairs", "turn", "told", "side", "place", "answer", "backs"] ["state", "game", "words", "rounds", "wins"] (defScope sLine) := ⟨rfl, rfl, rfl, by decide +kernel, rfl, by decide +kernel, by decide +kernel⟩
/-- the game, the drawing list and the words side by side -/
structure LI (K : PySem.W.Frag) (H : Hp) (p C dx wt pt : Addr) (al u v : List Nat) (r : Nat) (prs : Prs) (qs : List Addr) (a pp W : Addr) : Prop where
  g : GameSt H p C dx wt pt al u v r prs qs
  s : StOk K H a pp
  w : SqT K H W [.str (S u), .str (S v)]
theorem StOk.lst {K : PySem.W.Frag} {H : Hp} {a p : Addr} (h : StOk K H a p) : ∃ xs, H a = some (.lst xs) := by
  obtain ⟨cs, i, v, l, m, x⟩ := h
  exact ⟨_, x.h⟩
theorem StOk.lstP {K : PySem.W.Frag} {H : Hp} {a p : Addr} (h : StOk K H a p) : ∃ xs, H p = some (.lst xs) := by
  obtain ⟨cs, i, v, l, m, x⟩ := h
  exact ⟨_, x.c⟩
theorem StOk.but {K : PySem.W.Frag} {H H' : Hp} {a p b : Addr} (h : StOk K H a p) (t : But b H H') (n1 : a ≠ b) (n2 : p ≠ b) : StOk K H' a p := by
  obtain ⟨cs, i, v, l, m, x⟩ := h
  exact ⟨cs, i, v, l, m, t _ _ n1 x.h, t _ _ n2 x.c, x.ne, x.b, x.n, x.i0, x.v0, x.m0⟩
theorem seqT_but {K : PySem.W.Frag} {a W : Addr} {H H' : Hp} {xs ys : List V} (b : But a H H') (ha : H a = some (.lst ys)) (h : SqT K H W xs) : SqT K H' W xs := by
  rcases h with (h | ⟨o, h⟩) | h
  · exact .inl (.inl (b _ _ (ne_of h ha (by intro z; cases z)) h))
  · exact .inl (.inr ⟨o, b _ _ (ne_of h ha (by intro z; cases z)) h⟩)
  · exact .inr h
theorem GameSt.butL {H H' : Hp} {p C dx wt pt a : Addr} {al u v : List Nat} {r : Nat} {prs : Prs} {qs : List Addr} {ys : List V} (g : GameSt H p C dx wt pt al u v r prs qs) (b : But a H H') (ha : H a = some (.lst ys)) : GameSt H' p C dx wt pt al u v r prs qs :=
  ⟨b _ _ (ne_of g.o ha (by intro z; cases z)) g.o, b _ _ (ne_of g.w ha (by intro z; cases z)) g.w, b _ _ (ne_of g.t ha (by intro z; cases z)) g.t, Paired.mapP g.q fun _ _ z => b _ _ (ne_of z ha (by intro z; cases z)) z⟩
section
variable {K : PySem.W.Frag} {H H' : Hp} {p C dx wt pt : Addr} {al u v : List Nat} {r : Nat} {prs : Prs} {qs : List Addr} {a pp W : Addr}
theorem LI.same (h : LI K H p C dx wt pt al u v r prs qs a pp W) (t : Same H H') : LI K H' p C dx wt pt al u v r prs qs a pp W := ⟨h.g.mono t, h.s.same t, seqT t h.w⟩
/-- a number is drawn -/
theorem LI.draw (h : LI K H p C dx wt pt al u v r prs qs a pp W) (b : But a H H') (s : StOk K H' a pp) : LI K H' p C dx wt pt al u v r prs qs a pp W := by
  obtain ⟨xs, hx⟩ := h.s.lst
  exact ⟨h.g.butL b hx, s, seqT_but b hx h.w⟩
/-- another list is changed -/
theorem LI.other {L : Addr} {ys : List V} (h : LI K H p C dx wt pt al u v r prs qs a pp W) (b : But L H H') (hL : H L = some (.lst ys)) (n1 : a ≠ L) (n2 : pp ≠ L) : LI K H' p C dx wt pt al u v r prs qs a pp W :=
  ⟨h.g.butL b hL, h.s.but b n1 n2, seqT_but b hL h.w⟩
/-- the game is changed -/
theorem LI.game {pt' : Addr} {prs' : Prs} {qs' : List Addr} (h : LI K H p C dx wt pt al u v r prs qs a pp W) (b : But p H H') (g : GameSt H' p C dx wt pt' al u v r prs' qs') : LI K H' p C dx wt pt' al u v r prs' qs' a pp W := by
  obtain ⟨xs, hx⟩ := h.s.lst
  obtain ⟨ys, hy⟩ := h.s.lstP
  exact ⟨g, h.s.but b (ne_of hx h.g.o (by intro z; cases z)) (ne_of hy h.g.o (by intro z; cases z)), b.insT h.g.o h.w⟩
end
theorem PairsAt.butL {H H' : Hp} {L a : Addr} {ys : List V} {prs : Prs} (h : PairsAt H L prs) (b : But a H H') (ha : H a = some (.lst ys)) (n : L ≠ a) : PairsAt H' L prs := by
  obtain ⟨ts, h1, h2⟩ := h
  exact ⟨ts, b _ _ n h1, Paired.mapP h2 fun _ _ z => b _ _ (ne_of z ha (by intro z; cases z)) z⟩
def spLine (K : PySem.W.Frag) (C : Addr) : Sp := fun vs H Q _ => ∃ (p dx wt pt a pp W : Addr) (al u v : List Nat) (r : Nat) (qs : List Addr) (win : Bool), vs = [.ref a, .ref p, .ref W, .int (r : Int), .bl win] ∧ LI K H p C dx wt pt al u v r [] qs a pp W ∧ u.length ≤ 60 ∧ v.length ≤ 60 ∧ r ≤ 3 ∧ (win = true ↔ Win r u v []) ∧
  ∀ H' pt' qs', LI K H' p C dx wt pt' al u v r [] qs' a pp W → Q (.bl true) H'
/-- the answers of back -/
def bkV (r i : Nat) : List V := (List.range i).map fun j => V.bl (decide (j < r))
def bkD (r : Nat) : PyData := .list ((List.range (r + 1)).map fun j => PyData.bool (decide (j < r)))
theorem bkV_succ (r i : Nat) : bkV r (i + 1) = bkV r i ++ [.bl (decide (i < r))] := by
  unfold bkV
  rw [List.range_succ, List.map_append]
  rfl
theorem dp_bools {K : PySem.W.Frag} {H : Hp} {f : Nat → Bool} : ∀ xs : List Nat, DpAll K H (xs.map fun j => V.bl (f j)) (xs.map fun j => PyData.bool (f j))
  | [] => .nil
  | x :: xs => .cons (.bl _) (dp_bools xs)
theorem bk_exp (r : Nat) : bkV r (r + 1) = List.replicate r (.bl true) ++ [.bl false] := by
  rw [bkV_succ]
  congr 1
  · unfold bkV
    apply List.ext_getElem
    · simp
    · intro i h1 h2
      have : i < r := by simpa using h1
      simp [this]
  · simp
theorem okE_bk {r : Nat} (h : r ≤ 3) : okE 4 (bkD r) := by
  refine ⟨by rw [List.length_map, List.length_range]; omega, fun x hx => ?_⟩
  obtain ⟨j, _, rfl⟩ := List.mem_map.mp hx
  trivial
theorem drop_take {α : Type} (xs : List α) (n : Nat) (h : n + 1 ≤ xs.length) : (xs.take (n + 1)).dropLast = xs.take n := by
  rw [List.dropLast_eq_take, List.length_take, Nat.min_eq_left h, List.take_take]
  congr 1
  omega
end W8

set_option Elab.async false
set_option linter.all false
set_option maxRecDepth 100000
set_option maxHeartbeats 4000000
namespace W8
open PySem L2 NK GM
theorem bool_of_iff {a b : Bool} {A : Prop} (ha : a = true ↔ A) (hb : b = true ↔ A) : b = a := by
  cases a <;> cases b <;> simp_all
section
variable {P : Program} {w : World} {K : PySem.W.Frag} {mg : Str → Option Value} {base : Heap}
theorem ok_line {f C : Addr} {fd : FuncData} (F : Fun K "_law_line" "_law_line" sLine f fd) (c : GameC P w K mg base C) (cd : Cal P w K mg base "_law_draw" 1 ["state", "many"] (spDraw K)) : FnOk P w K mg base CX0 8 f fd ["state", "game", "words", "rounds", "wins"] (spLine K C) := by
  refine F.ok scLine (fun vs H Q E h => ?_) (fun cdv A outer s H vs Q E hr h => ?_)
  · obtain ⟨p, dx, wt, pt, a, pp, W, al, u, v, r, qs, win, rfl, _⟩ := h
    rfl
  obtain ⟨p, dx, wt, pt, a, pp, W, al, u, v, r, qs, win, rfl, I0, hu, hv, hr3, hwin0, q⟩ := h
  obtain ⟨f1, fd1, F1, m1, b1⟩ := c.wins.ex
  obtain ⟨f2, fd2, F2, m2, b2⟩ := c.attack.ex
  obtain ⟨f3, fd3, F3, m3, b3⟩ := c.reply.ex
  obtain ⟨f4, fd4, F4, m4, b4⟩ := c.play.ex
  obtain ⟨f5, fd5, F5, m5, b5⟩ := c.back.ex
  refine ⟨_, (pss_cons (ps_set (i := 5) scLine.nd rfl (Or.inl rfl) (pe_lst pa_nil))
    (pss_cons (ps_for PassesOwn.never rfl (pi_range1 (by rfl) c.S.range (pa_cons (pv 3) pa_nil)) (pg_name (i := 6) scLine.nd rfl (Or.inl rfl))
      (pss_cons (ps_set (i := 7) scLine.nd rfl (Or.inl rfl) (pe_meth0 (pv 1) c.T.cl m2 F2 hr b2 .nil pass0))
      (C8.pss_cut (ps_if (pt_val (pv 4))
        (pss_cons (ps_set (i := 8) scLine.nd rfl (Or.inl rfl) (pcall cd hr (pa_cons (pv 0) (pa_cons pe_int pa_nil))))
        (pss_cons (ps_set (i := 9) scLine.nd rfl (Or.inl rfl) (pcall cd hr (pa_cons (pv 0) (pa_cons (pe_op op_add (pB1 call_len_str c.S.len (pixT (pv 2) (pv 8))) pe_int) pa_nil))))
        (pss_one (ps_set (i := 10) scLine.nd rfl (Or.inl rfl) (pe_meth (pv 1) c.T.cl m3 F3 hr b3 .nil pass0 (pa_cons (pv 8) (pa_cons (pv 9) pa_nil)))))))
        (pss_one (ps_if (pt_val (pcall c.aimed hr (pa_cons (pv 7) (pa_cons (pv 2) pa_nil))))
          (pss_cons (ps_set (i := 8) scLine.nd rfl (Or.inl rfl) (pixT (pv 7) pe_int))
          (pss_cons (ps_set (i := 9) scLine.nd rfl (Or.inl rfl) (pixT (pv 7) pe_int))
          (pss_one (ps_set (i := 10) scLine.nd rfl (Or.inl rfl) (pcall cd hr (pa_cons (pv 0) (pa_cons (pe_op op_add (pB1 call_len_str c.S.len (pixT (pv 2) (pe_op op_sub pe_int (pv 8)))) pe_int) pa_nil)))))))
          pss_never)))
      (pss_cons (ps_if (PW.pt (pw_or (pt_not (pt_val (pcall c.place hr (pa_cons (pv 10) (pa_cons (pixT (pv 2) (pe_op op_sub pe_int (pv 8))) pa_nil))))) (pw_or1 (pt_cmpR op_notN (pe_meth (pv 1) c.T.cl m4 F4 (hr.mono (by decide)) b4 .nil pass0 (pa_cons (pv 8) (pa_cons (pv 9) (pa_cons (pv 10) pa_nil)))) pe_non (nomark _)))))
        pss_never
        pss_nil)
      (pss_cons (ps_expr (pe_bm PySem.F.plainAttrs_list PySem.F.slot_list_append PySem.F.type_list_append mt_append (pv 5) (pa_cons (pcall c.pair hr (pa_cons (pv 8) (pa_cons (pv 9) (pa_cons (pv 10) pa_nil)))) pa_nil)))
      (pss_one (ps_if (pt_not (pt_val (pcall c.same hr (pa_cons (pe_lst (pa_cons (pe_meth0 (pv 1) c.T.cl m1 F1 hr b1 .nil pass0) (pa_cons (pe_fld (pv 1) rfl) pa_nil))) (pa_cons (pe_lst (pa_cons (pv 4) (pa_cons (pT1 (r := rTupOf K) cr_tupOf c.S.tuple (pv 5)) pa_nil))) pa_nil)))))
        pss_never
        pss_nil)))))))
    (pss_cons (ps_if (pt_cmpR op_ne (pcall c.fit hr (pa_cons (pv 2) (pa_cons (pv 5) pa_nil))) (pv 4) (nomark _))
      pss_never
      pss_nil)
    (pss_cons (ps_setLc (i := 11) (own := [("turn", 6)]) (g := gName 6) (tt := tYes) rfl scLine.nd rfl rfl (sw_true rfl rfl rfl (by decide +kernel)) (pi_range1 (by rfl) c.S.range (pa_cons (pe_op op_add (pv 3) pe_int) pa_nil)) (blkOk_by (own := [("turn", 6)]) (N := ["state", "game", "words", "rounds", "wins", "pairs", "turn", "told", "side", "place", "answer", "backs"]) (sc := defScope sLine) (by decide +kernel)) (fun _ _ _ _ _ => (pg_name (i := 6) scLine.nd rfl (Or.inl rfl))) (fun _ _ _ _ _ => pts_nil) (fun _ _ _ _ _ => (pe_meth0 (pv 1) c.T.cl m5 F5 (hr.mono (by decide)) b5 .nil pass0)))
    (pss_one (ps_ret (pcall c.same hr (pa_cons (pv 11) (pa_cons (pe_op op_cat (pe_lc (own := [("turn", 6)]) (g := gName 6) (tt := tYes) rfl scLine.nd (pi_range1 (by rfl) c.S.range (pa_cons (pv 3) pa_nil)) (blkOk_by (own := [("turn", 6)]) (N := ["state", "game", "words", "rounds", "wins", "pairs", "turn", "told", "side", "place", "answer", "backs"]) (sc := defScope sLine) (by decide +kernel)) (fun _ _ _ _ _ => (pg_name (i := 6) scLine.nd rfl (Or.inl rfl))) (fun _ _ _ _ _ => pts_nil) (fun _ _ _ _ _ => pe_bl)) (pe_lst (pa_cons pe_bl pa_nil))) pa_nil))))))))), ?_⟩
  refine ⟨Nat.zero_le _, fun L hL => ?_⟩
  have sL := same_new hL (.lst [])
  have nLa : a ≠ L := by
    obtain ⟨xs, hx⟩ := I0.s.lst
    exact ne_of_none hx hL
  have nLp : pp ≠ L := by
    obtain ⟨xs, hx⟩ := I0.s.lstP
    exact ne_of_none hx hL
  have I1 := I0.same sL
  refine ⟨_, rfl, _, rfl, by omega, by omega, ?_⟩
  have er : ((r : Int)).toNat = r := Int.toNat_natCast r
  rw [er]
  refine for_range (lo := 0) (n := r) (fun i σ H' => ∃ (y6 y7 y8 y9 y10 : Option V) (pt' : Addr) (prs : Prs) (qs' : List Addr), σ = [some (.ref a), some (.ref p), some (.ref W), some (.int (r : Int)), some (.bl win), some (.ref L), y6, y7, y8, y9, y10, none] ∧
      prs.length = i ∧ Inb u.length v.length prs ∧ (win = true ↔ Win (r - i) u v prs) ∧ LI K H' p C dx wt pt' al u v r prs qs' a pp W ∧ PairsAt H' L prs)
    ⟨none, none, none, none, none, pt, [], qs, rfl, rfl, (fun _ h => nomatch h), hwin0, I1, [], upd_same, .nil⟩ ?_ ?_
  · rintro i σ H2 hi ⟨y6, y7, y8, y9, y10, pt2, prs, qs2, rfl, hlen, hin, hwin, I2, P2⟩
    have G2 := I2.g
    refine ⟨_, rfl, p, dx, _, rfl, G2.o, gf_no _ _ _ _ (by decide +kernel), p, dx, wt, pt2, al, u, v, r, prs, qs2, rfl, G2, hu, hv, hr3, by omega, hin, fun o told H3 s3 ho hto => ?_⟩
    have I3 := I2.same s3
    have P3 := P2.mono s3
    obtain ⟨n, hn⟩ : ∃ n, r - i = n + 1 := ⟨r - i - 1, by omega⟩
    rw [hn] at hwin
    have hrn : prs.length + (n + 1) = r := by omega
    have en : r - prs.length - 1 = n := by omega
    refine ⟨fun σ' H' => ∃ (s x y : Nat), σ' = [some (.ref a), some (.ref p), some (.ref W), some (.int (r : Int)), some (.bl win), some (.ref L), some (.int (0 + (i : Int))), some told, some (natV s), some (natV x), some (natV y), none] ∧
      s ≤ 1 ∧ x ≤ (wd u v s).length ∧ y ≤ (wd u v (1 - s)).length ∧ (win = true ↔ Wins n u v prs s x y) ∧ LI K H' p C dx wt pt2 al u v r prs qs2 a pp W ∧ PairsAt H' L prs, ?_, ?_⟩
    · refine ⟨_, rfl, _, rfl, ?_⟩
      refine ite2 (fun hw => ?_) (fun hw => ?_)
      · have hW := hwin.mp hw
        refine ⟨_, rfl, a, 2, rfl, by omega, by omega, _, I3.s, fun sd H4 d0 d1 B4 S4 => ?_⟩
        obtain ⟨ys3, hy3⟩ := I3.s.lst
        have I4 := I3.draw B4 S4
        have P4 := P3.butL B4 hy3 (Ne.symm nLa)
        obtain ⟨sn, rfl⟩ : ∃ sn : Nat, sd = (sn : Int) := ⟨sd.toNat, by omega⟩
        have hs1 : sn ≤ 1 := by omega
        have hz := wd_len (s := sn) hu hv
        have hz1 := wd_len (s := 1 - sn) hu hv
        refine ⟨_, rfl, _, rfl, _, rfl, W, _, _, _, rfl, rfl, I4.w, wd_at u v hs1, _, rfl, sz (by rw [S_len]; omega), _, _, rfl, rfl, a, _, rfl, by rw [S_len]; omega, by rw [S_len]; omega, _, I4.s, fun xd H5 x0 x1 B5 S5 => ?_⟩
        obtain ⟨ys4, hy4⟩ := I4.s.lst
        have I5 := I4.draw B5 S5
        have P5 := P4.butL B5 hy4 (Ne.symm nLa)
        obtain ⟨xn, rfl⟩ : ∃ xn : Nat, xd = (xn : Int) := ⟨xd.toNat, by omega⟩
        have hxl : xn ≤ (wd u v sn).length := by rw [S_len] at x1; omega
        refine ⟨_, rfl, p, dx, _, rfl, I5.g.o, gf_no _ _ _ _ (by decide +kernel), _, rfl, _, rfl, p, dx, wt, pt2, al, u, v, r, sn, xn, prs, qs2, rfl, I5.g, hu, hv, hr3, hs1, by omega, hin, hxl, fun o2 H6 s6 ho2 => ?_⟩
        rw [en] at ho2
        obtain ⟨y, rfl, hyl, hwy⟩ := reply_some hW hs1 hxl ho2
        exact ⟨sn, xn, y, rfl, hs1, hxl, hyl, ⟨fun _ => hwy, fun _ => hw⟩, I5.same s6, P5.mono s6⟩
      · have hW : ¬ Win (n + 1) u v prs := fun z => hw (hwin.mpr z)
        obtain ⟨sn, xn, rfl, hs1, hxl, hno⟩ := attack_some hW hrn ho
        obtain ⟨t, rfl, ht3⟩ := hto
        have hz1 := wd_len (s := 1 - sn) hu hv
        refine ⟨_, rfl, _, rfl, t, W, u, v, sn, xn, rfl, ht3, I3.w, hu, hv, hs1, hxl, fun H4 s4 => ⟨_, rfl, ?_⟩⟩
        refine ite2 (fun _ => ?_) (fun z => absurd rfl z)
        have ht4 := s4 _ _ ht3
        have I4 := I3.same s4
        refine ⟨_, rfl, t, _, 0, natV sn, rfl, rfl, SqT.of ht4, rfl, ?_⟩
        refine ⟨_, rfl, t, _, 1, natV xn, rfl, rfl, SqT.of ht4, rfl, ?_⟩
        refine ⟨_, rfl, _, rfl, _, rfl, _, _, rfl, rfl, W, _, _, _, rfl, rfl, I4.w, wd_at1 u v hs1, _, rfl, sz (by rw [S_len]; omega), _, _, rfl, rfl, a, _, rfl, by rw [S_len]; omega, by rw [S_len]; omega, _, I4.s, fun yd H5 y0 y1 B5 S5 => ?_⟩
        obtain ⟨ys4, hy4⟩ := I4.s.lst
        obtain ⟨yn, rfl⟩ : ∃ yn : Nat, yd = (yn : Int) := ⟨yd.toNat, by omega⟩
        have hyl : yn ≤ (wd u v (1 - sn)).length := by rw [S_len] at y1; omega
        exact ⟨sn, xn, yn, rfl, hs1, hxl, hyl, ⟨fun z => absurd z hw, fun z => absurd z (hno yn hyl)⟩, I4.draw B5 S5, (P3.mono s4).butL B5 hy4 (Ne.symm nLa)⟩
    rintro σ' H4 ⟨sn, x, y, rfl, hs1, hxl, hyl, hwy, I4, P4⟩
    have hz1 := wd_len (s := 1 - sn) hu hv
    refine ⟨_, rfl, _, rfl, _, rfl, _, _, rfl, rfl, W, _, _, _, rfl, rfl, I4.w, wd_at1 u v hs1, y, wd u v (1 - sn), rfl, hyl, by omega, _, rfl, ?_⟩
    refine ite2 (fun z => (nomatch z)) (fun _ => ?_)
    refine ⟨_, rfl, p, dx, _, rfl, I4.g.o, gf_no _ _ _ _ (by decide +kernel), _, rfl, _, rfl, _, rfl, p, dx, wt, pt2, al, u, v, r, sn, x, y, prs, qs2, rfl, I4.g, hu, hv, hr3, hs1, by omega, hxl, hyl, fun H5 pt5 qs5 B5 G5 => ⟨rfl, _, rfl, ?_⟩⟩
    refine ite2 (fun z => (nomatch z)) (fun _ => ?_)
    have I5 := I4.game B5 G5
    obtain ⟨ts5, hts5, hpq5⟩ := P4.but B5 I4.g.o
    have hl5 : ts5.length = prs.length := Paired.length hpq5
    -- pairs.append
    refine ⟨_, rfl, .inl ⟨rfl, _, SqL.of hts5⟩, _, rfl, _, rfl, _, rfl, sn, x, y, rfl, hs1, fun t H6 s6 ht6 => ?_⟩
    have hts6 := s6 _ _ hts5
    refine ⟨_, _, _, rfl, rfl, hts6, small_lt (by rw [List.length_map]; omega), ?_⟩
    have I7 := (I5.same s6).other (H' := upd H6 L (.lst (ts5.map V.ref ++ [.ref t]))) But.upd hts6 nLa nLp
    have hts7 : (upd H6 L (.lst (ts5.map V.ref ++ [.ref t]))) L = some (.lst ((ts5 ++ [t]).map V.ref)) := by rw [upd_same, List.map_append] <;> rfl
    have pq7 : Paired (fun (t' : Addr) (pr : Nat × Nat) => (upd H6 L (.lst (ts5.map V.ref ++ [.ref t]))) t' = some (.tup [natV pr.1, natV pr.2])) (ts5 ++ [t]) (prs ++ [mkp sn x y]) :=
      paired_snoc (Paired.mapP hpq5 fun b z hz => by rw [upd_ne (ne_of (s6 _ _ hz) hts6 (by intro z; cases z))]; exact s6 _ _ hz) (by rw [upd_ne (ne_of ht6 hts6 (by intro z; cases z))]; exact ht6)
    have hin' := inb_snoc hin hxl hs1 hyl
    have hlen' : (prs ++ [mkp sn x y]).length = i + 1 := by rw [List.length_append, hlen]; rfl
    generalize upd H6 L (.lst (ts5.map V.ref ++ [.ref t])) = H7 at I7 hts7 pq7
    -- the two lists
    refine ⟨_, rfl, p, dx, _, rfl, I7.g.o, gf_no _ _ _ _ (by decide +kernel), p, dx, wt, pt5, al, u, v, r, prs ++ [mkp sn x y], qs5, rfl, I7.g, hu, hv, hr3, by omega, hin', fun bw H8 s8 hbw => ?_⟩
    have en1 : r - (prs ++ [mkp sn x y]).length = n := by omega
    rw [en1] at hbw
    obtain rfl : bw = win := bool_of_iff hwy hbw
    have I8 := I7.same s8
    refine ⟨_, rfl, p, C, dx, _, _, rfl, I8.g.o, c.T.cl, c.T.nP, gf_pairs _ _ _ _, by show 2 ≤ sizeLine; decide, fun l hl => ?_⟩
    have s9 := same_new hl (.lst [.bl bw, .ref pt5])
    have hts9 := s9 _ _ (s8 _ _ hts7)
    refine ⟨_, rfl, _, rfl, L, _, rfl, .inl ⟨SqL.of hts9, fun tp htp => ?_⟩⟩
    have s10 := same_new htp (.tup ((ts5 ++ [t]).map V.ref))
    refine ⟨by show 2 ≤ sizeLine; decide, fun l2 hl2 => ?_⟩
    have s11 := same_new hl2 (.lst [.bl bw, .ref tp])
    have sA := s9.trans (s10.trans s11)
    have d1 := dp_mono sA (I8.g.dp (K := K))
    have d2 : Dp K _ (.ref tp) (.tuple ((prs ++ [mkp sn x y]).map prD)) := .tup (SqT.of (s11 _ _ upd_same)) (dp_pairs (Paired.mapP pq7 fun _ _ z => sA _ _ (s8 _ _ z)))
    have ok4 : okE 4 (.list [.bool bw, .tuple ((prs ++ [mkp sn x y]).map prD)]) := ok_two trivial (okE_pairs (by omega))
    refine ⟨_, _, _, _, rfl, .lst (SqL.of ((s10.trans s11) _ _ upd_same)) (.cons (.bl bw) (.cons d1 .nil)), .lst (SqL.of upd_same) (.cons (.bl bw) (.cons d2 .nil)), ok4, fun b12 H12 s12 hb12 => ⟨_, rfl, ?_⟩⟩
    obtain rfl : b12 = true := hb12.mpr rfl
    refine ite2 (fun z => (nomatch z)) (fun _ => ?_)
    have eri : r - (i + 1) = n := by omega
    exact ⟨_, _, _, _, _, pt5, _, qs5, rfl, hlen', hin', by rw [eri]; exact hwy, (I8.same sA).same s12, ts5 ++ [t], s12 _ _ (sA _ _ (s8 _ _ hts7)), Paired.mapP pq7 fun _ _ z => s12 _ _ (sA _ _ (s8 _ _ z))⟩
  rintro σ H2 ⟨y6, y7, y8, y9, y10, pt2, prs, qs2, rfl, hlen, hin, hwin, I2, P2⟩
  rw [Nat.sub_self] at hwin
  refine ⟨_, rfl, _, rfl, W, L, u, v, prs, rfl, I2.w, P2, hin, hu, hv, by omega, fun b H3 s3 hb => ?_⟩
  obtain rfl : b = win := bool_of_iff hwin hb
  refine ⟨_, rfl, rfl, _, rfl, ?_⟩
  refine ite2 (fun z => by rw [decide_eq_true rfl] at z; cases z) (fun _ => ?_)
  have I3 := I2.same s3
  -- backs
  refine ⟨_, rfl, _, _, rfl, rfl, _, rfl, by omega, by omega, fun B hB => ?_⟩
  have er1 : ((r : Int) + 1).toNat = r + 1 := by omega
  rw [er1]
  have nBa : a ≠ B := by
    obtain ⟨xs, hx⟩ := I3.s.lst
    exact ne_of_none hx hB
  have nBp : pp ≠ B := by
    obtain ⟨xs, hx⟩ := I3.s.lstP
    exact ne_of_none hx hB
  have e0 : prs.take (r - 0) = prs := by rw [Nat.sub_zero]; exact List.take_of_length_le (by omega)
  refine walk_r (fun i H' => ∃ pt' qs', LI K H' p C dx wt pt' al u v r (prs.take (r - i)) qs' a pp W ∧ H' B = some (.lst (bkV r i))) ⟨pt2, qs2, by rw [e0]; exact I3.same (same_new hB _), upd_same⟩ ?_ ?_
  · rintro i H4 hi ⟨pt4, qs4, I4, hB4⟩
    refine ⟨rfl, yes ?_⟩
    have hlb : (bkV r i).length = i := by unfold bkV; rw [List.length_map, List.length_range]
    refine ⟨_, rfl, p, dx, _, rfl, I4.g.o, gf_no _ _ _ _ (by decide +kernel), p, dx, wt, pt4, al, u, v, r, prs.take (r - i), qs4, rfl, I4.g, fun hz => ?_, fun hz H5 pt5 qs5 B5 G5 => ?_⟩
    · have hir : i = r := by
        have := congrArg List.length hz
        rw [List.length_take, hlen] at this
        have : ([] : Prs).length = 0 := rfl
        omega
      refine ⟨_, hB4, small_lt (by omega), pt4, qs4, ?_, ?_⟩
      · have e : prs.take (r - (i + 1)) = prs.take (r - i) := by rw [hir, Nat.sub_self, show r - (r + 1) = 0 by omega]
        rw [e]
        exact I4.other But.upd hB4 nBa nBp
      · rw [upd_same, bkV_succ, hir, decide_eq_false (Nat.lt_irrefl r)]
    · have hir : i < r := by
        refine Classical.byContradiction fun z => hz ?_
        rw [show r - i = 0 by omega]
        rfl
      have hB5 := B5 _ _ (ne_of hB4 I4.g.o (by intro z; cases z)) hB4
      refine ⟨_, hB5, small_lt (by omega), pt5, qs5, ?_, ?_⟩
      · have e : (prs.take (r - i)).dropLast = prs.take (r - (i + 1)) := by
          have e2 : r - i = (r - (i + 1)) + 1 := by omega
          rw [e2]
          exact drop_take prs _ (by omega)
        rw [← e]
        exact (I4.game B5 G5).other But.upd hB5 nBa nBp
      · rw [upd_same, bkV_succ, decide_eq_true hir]
  rintro H4 ⟨pt4, qs4, I4, hB4⟩
  have et : prs.take (r - (r + 1)) = [] := by rw [show r - (r + 1) = 0 by omega]; rfl
  rw [et] at I4
  refine ⟨_, rfl, ?_⟩
  refine ⟨_, rfl, _, rfl, by omega, by omega, fun T hT => ?_⟩
  rw [er]
  refine walk_r (fun i H' => Same H4 H' ∧ H' T = some (.lst (List.replicate i (.bl true)))) ⟨same_new hT _, upd_same⟩ ?_ ?_
  · rintro i H5 hi ⟨s5, hT5⟩
    refine ⟨rfl, yes ?_⟩
    refine ⟨_, hT5, small_lt (by rw [List.length_replicate]; omega), same_upd s5 hT, ?_⟩
    rw [upd_same, List.replicate_succ']
  rintro H5 ⟨s5, hT5⟩
  refine ⟨by show 1 ≤ sizeLine; decide, fun l hl => ?_⟩
  have s6 := same_new hl (.lst [.bl false])
  refine ⟨T, l, _, _, rfl, rfl, s6 _ _ hT5, upd_same, Nat.le_of_lt (small_lt (by rw [List.length_replicate]; show r + 1 < 100000; omega)), fun X hX => ?_⟩
  have s7 := same_new hX (.lst (List.replicate r (.bl true) ++ [.bl false]))
  have s57 := s5.trans (s6.trans s7)
  have dB : Dp K _ (.ref B) (bkD r) := .lst (SqL.of (s57 _ _ hB4)) (dp_bools _)
  have hX' : (upd (upd H5 l (.lst [.bl false])) X (.lst (List.replicate r (.bl true) ++ [.bl false]))) X = some (.lst (bkV r (r + 1))) := by rw [upd_same, ← bk_exp]
  have dX : Dp K _ (.ref X) (bkD r) := .lst (SqL.of hX') (dp_bools _)
  refine ⟨_, _, _, _, rfl, dB, dX, okE_bk hr3, fun b8 H8 s8 hb8 => ?_⟩
  obtain rfl : b8 = true := hb8.mpr rfl
  exact q H8 pt4 qs4 (I4.same (s57.trans s8))
end
end W8

set_option Elab.async false
set_option linter.all false
set_option maxRecDepth 100000
set_option maxHeartbeats 4000000
namespace W8
open PySem L2 NK GM
abbrev sLenG : Stmt := inClass (top 16) 2
theorem scLenG : FnScope ["self"] ["self"] (defScope sLenG) := ⟨rfl, rfl, rfl, by decide +kernel, rfl, by decide +kernel, by decide +kernel⟩
def spLenG (C : Addr) : Sp := fun vs H Q _ => ∃ (p dx wt pt : Addr) (al u v : List Nat) (r : Nat) (prs : Prs) (qs : List Addr), vs = [.ref p] ∧ GameSt H p C dx wt pt al u v r prs qs ∧ Q (.int (prs.length : Int)) H
abbrev sNew : Stmt := top 18
theorem scNew : FnScope ["script"] ["script"] (defScope sNew) := ⟨rfl, rfl, rfl, by decide +kernel, rfl, by decide +kernel, by decide +kernel⟩
def spNew (K : PySem.W.Frag) : Sp := fun vs H Q _ => ∃ (a : Addr) (ns : List Int), vs = [.ref a] ∧ SqL K H a (ns.map V.int) ∧ ns.length ≤ 63 ∧ (∀ z ∈ ns, Builtin.Int.intBits z ≤ 1048576) ∧ ∀ b p H', Same H H' → StOk K H' b p → Q (.ref b) H'
abbrev sLaw : Stmt := top 32
theorem scLaw : FnScope ["script", "state", "letters", "words", "rounds", "game", "wins", "turn"] ["script"] (defScope sLaw) := ⟨rfl, rfl, rfl, by decide +kernel, rfl, by decide +kernel, by decide +kernel⟩
def spLaw (K : PySem.W.Frag) : Sp := fun vs H Q _ => ∃ (a : Addr) (ns : List Int), vs = [.ref a] ∧ SqL K H a (ns.map V.int) ∧ ns.length ≤ 63 ∧ (∀ z ∈ ns, Builtin.Int.intBits z ≤ 1048576) ∧ ∀ H', Q (.bl true) H'
/-- the strategy for any number of rounds up to 3 -/
def spAll (K : PySem.W.Frag) (C : Addr) (A : Prop → Prop) : Sp := fun vs H Q E => ∃ n, n ≤ 3 ∧ spStrat K C A n vs H Q E
theorem Alph.ok2 {al : List Nat} (h : Alph al (8 * al.length - 1)) (n3 : al.length ≤ 3) : AlphOk al := by
  refine ⟨List.length_pos_iff.mpr h.ne, n3, h.asc, fun c hc => ?_⟩
  have := h.lo c hc
  omega
section
variable {P : Program} {w : World} {K : PySem.W.Frag} {mg : Str → Option Value} {base : Heap}
theorem ok_lenG {f C : Addr} {fd : FuncData} (F : Fun K "__len__" "Game.__len__" sLenG f fd) (T : GameT K mg C) (tl : mg "len" = none) : FnOk P w K mg base CX0 1 f fd ["self"] (spLenG C) := by
  refine F.ok scLenG (fun vs H Q E h => ?_) (fun cdv A outer s H vs Q E hr h => ?_)
  · obtain ⟨p, dx, wt, pt, al, u, v, r, prs, qs, rfl, _⟩ := h
    rfl
  obtain ⟨p, dx, wt, pt, al, u, v, r, prs, qs, rfl, G, q⟩ := h
  have hql : qs.length = prs.length := Paired.length G.q
  refine ⟨_, (pss_one (ps_ret (pB1 call_len_seq tl (pe_fld (pv 0) rfl)))), ?_⟩
  refine ⟨_, rfl, p, C, dx, _, _, rfl, G.o, T.cl, T.nP, gf_pairs _ _ _ _, pt, _, rfl, .inr (SqT.of G.t), ?_⟩
  rw [List.length_map, hql]
  exact q
theorem ok_new {f : Addr} {fd : FuncData} (F : Fun K "_law_new" "_law_new" sNew f fd) (tl : mg "list" = none) : FnOk P w K mg base CX0 1 f fd ["script"] (spNew K) := by
  refine F.ok scNew (fun vs H Q E h => ?_) (fun cdv A outer s H vs Q E hr h => ?_)
  · obtain ⟨a, ns, rfl, _⟩ := h
    rfl
  obtain ⟨a, ns, rfl, hS, hn, hb, q⟩ := h
  refine ⟨_, (pss_one (ps_ret (pe_lst (pa_cons (pT1 call_list_of tl (pv 0)) (pa_cons pe_int (pa_cons pe_int (pa_cons pe_int (pa_cons pe_int pa_nil)))))))), ?_⟩
  refine ⟨_, rfl, _, _, rfl, .inl hS, fun p hp => ?_⟩
  refine ⟨by show 5 ≤ sizeLine; decide, fun b hb2 => ?_⟩
  have s1 := same_new hp (.lst (ns.map V.int))
  have s2 := same_new hb2 (.lst [.ref p, .int 0, .int 0, .int 0, .int 0])
  have npb : p ≠ b := ne_of_none upd_same hb2
  exact q b p _ (s1.trans s2) ⟨ns, 0, 0, 0, 0, upd_same, s2 _ _ upd_same, npb, hb, hn, by omega, by omega, .inr (by omega)⟩
theorem ok_all {C : Addr} {A : Prop → Prop} {f : Addr} {fd : FuncData} {ps : List Str} (h : ∀ k, FnOk P w K mg base CX0 (7 + k) f fd ps (spS K C A k)) : FnOk P w K mg base CX0 11 f fd ps (spAll K C A) :=
  ⟨fun vs H Q E ⟨n, hn, q⟩ => (h (n + 1)).len vs H Q E q, fun A outer s H args us vs Q E room e0 hb hv ⟨n, hn, q⟩ => (h (n + 1)).run A outer s H args us vs Q E (room.mono (by omega)) e0 hb hv q⟩
theorem strats {C : Addr} {A : Prop → Prop} {x : Str} {f : Addr} {fd : FuncData} {ps : List Str} (hm : mg x = some (.ref f)) (kp : PySem.W.keepIn K (.ref f) = true) (b : Binds K fd ps []) (step : ∀ k, Cal P w K mg base x (7 + k) ps (spS K C A k) → FnOk P w K mg base CX0 (7 + k + 1) f fd ps (spS K C A (k + 1))) :
    ∀ k, FnOk P w K mg base CX0 (7 + k) f fd ps (spS K C A k)
  | 0 => strat0
  | k + 1 => step k ⟨f, fd, strats hm kp b step k, hm, kp, b⟩
structure LawC (P : Program) (w : World) (K : PySem.W.Frag) (mg : Str → Option Value) (base : Heap) (C : Addr) : Prop where
  g : GameC P w K mg base C
  new : Cal P w K mg base "_law_new" 1 ["script"] (spNew K)
  letters : Cal P w K mg base "_law_letters" 2 ["state", "most"] (spLetters K)
  draw : Cal P w K mg base "_law_draw" 1 ["state", "many"] (spDraw K)
  drawn : Cal P w K mg base "_law_words_drawn" 3 ["state", "letters"] (spWords_drawn K)
  defended : Cal P w K mg base "_law_defended" 11 ["game", "words", "left", "pairs"] (spAll K C (fun x => x))
  attacked : Cal P w K mg base "_law_attacked" 11 ["game", "words", "left", "pairs"] (spAll K C Not)
  line : Cal P w K mg base "_law_line" 8 ["state", "game", "words", "rounds", "wins"] (spLine K C)
  len : MCal P w K mg base C "__len__" 1 ["self"] (spLenG C)
theorem ok_law {f C fI : Addr} {fd fdI : FuncData} (F : Fun K "law" "law" sLaw f fd) (c : LawC P w K mg base C) (M : Mk K C fI) (GI : FnOk P w K mg base CX0 2 fI fdI ["self", "letters", "one", "other", "rounds"] (spInit C)) (bI : Binds K fdI ["self", "letters", "one", "other", "rounds"] []) :
    FnOk P w K mg base CX0 12 f fd ["script"] (spLaw K) := by
  refine F.ok scLaw (fun vs H Q E h => ?_) (fun cdv A outer s H vs Q E hr h => ?_)
  · obtain ⟨a, ns, rfl, _⟩ := h
    rfl
  obtain ⟨a0, ns, rfl, hS, hn, hb, q⟩ := h
  obtain ⟨f1, fd1, F1, m1, b1⟩ := c.g.wins.ex
  obtain ⟨f2, fd2, F2, m2, b2⟩ := c.len.ex
  have SS := c.g.S
  have T := c.g.T
  refine ⟨_, (pss_cons (ps_set (i := 1) scLaw.nd rfl (Or.inl rfl) (pcall c.new hr (pa_cons (pv 0) pa_nil)))
    (pss_cons (ps_set (i := 2) scLaw.nd rfl (Or.inl rfl) (pcall c.letters hr (pa_cons (pv 1) (pa_cons pe_int pa_nil))))
    (pss_cons (ps_set (i := 3) scLaw.nd rfl (Or.inl rfl) (pcall c.drawn hr (pa_cons (pv 1) (pa_cons (pv 2) pa_nil))))
    (pss_cons (ps_set (i := 4) scLaw.nd rfl (Or.inl rfl) (pcall c.draw hr (pa_cons (pv 1) (pa_cons pe_int pa_nil))))
    (pss_cons (ps_set (i := 5) scLaw.nd rfl (Or.inl rfl) (pe_make M GI (hr.mono (by decide)) (by rfl) T.mgC bI .nil pass0 (pa_cons (pv 2) (pa_cons (pixT (pv 3) pe_int) (pa_cons (pixT (pv 3) pe_int) (pa_cons (pv 4) pa_nil))))))
    (pss_cons (ps_set (i := 6) scLaw.nd rfl (Or.inl rfl) (pe_meth0 (pv 5) T.cl m1 F1 (hr.mono (by decide)) b1 .nil pass0))
    (pss_cons (ps_if (pt_not (pt_val (pe_callB call_isi (by rfl) SS.isinstance (by decide +kernel) (pa_cons (pv 6) (pa_cons (pe_bltn (v := .ty "bool") (by rfl) SS.bool (by decide +kernel) rfl) pa_nil)))))
      pss_never
      pss_nil)
    (C8.pss_cut (ps_if (PW.pt (pw_and (pt_cmpR op_lt (pv 4) pe_int (nomark _)) (pw_and (pt_cmpR op_lt (pB1 call_len_str SS.len (pixT (pv 3) pe_int)) pe_int (nomark _)) (pw_and1 (pt_cmpR op_lt (pB1 call_len_str SS.len (pixT (pv 3) pe_int)) pe_int (nomark _))))))
      (C8.pss_cut (ps_if (PW.pt (pw_and (pt_val (pv 6)) (pw_and1 (pt_not (pt_val (pcall c.defended hr (pa_cons (pv 5) (pa_cons (pv 3) (pa_cons (pv 4) (pa_cons (pe_lst pa_nil) pa_nil))))))))))
        pss_never
        pss_nil)
      (pss_one (ps_if (PW.pt (pw_and (pt_not (pt_val (pv 6))) (pw_and1 (pt_not (pt_val (pcall c.attacked hr (pa_cons (pv 5) (pa_cons (pv 3) (pa_cons (pv 4) (pa_cons (pe_lst pa_nil) pa_nil))))))))))
        pss_never
        pss_nil)))
      pss_nil)
    (pss_cons (ps_for PassesOwn.never rfl (pi_range1 (by rfl) SS.range (pa_cons pe_int pa_nil)) (pg_name (i := 7) scLaw.nd rfl (Or.inl rfl))
      (pss_one (ps_if (pt_not (pt_val (pcall c.line hr (pa_cons (pv 1) (pa_cons (pv 5) (pa_cons (pv 3) (pa_cons (pv 4) (pa_cons (pv 6) pa_nil))))))))
        pss_never
        pss_nil)))
    (pss_one (ps_ret (pcall c.g.same hr (pa_cons (pe_lst (pa_cons (pe_meth0 (pv 5) T.cl m1 F1 (hr.mono (by decide)) b1 .nil pass0) (pa_cons (pe_fld (pv 5) rfl) (pa_cons (pB1 (call_lenOwn F2 m2 b2 pass0 (hr.mono (by decide))) SS.len (pv 5)) pa_nil)))) (pa_cons (pe_lst (pa_cons (pv 6) (pa_cons (pe_tup pa_nil) (pa_cons pe_int pa_nil)))) pa_nil)))))))))))))), ?_⟩
  refine ⟨_, rfl, a0, ns, rfl, hS, hn, hb, fun a pp H1 s1 S1 => ?_⟩
  refine ⟨_, rfl, a, 2, rfl, by omega, by omega, _, S1, fun al H2 hal la B2 S2 => ?_⟩
  have hA := hal.ok2 (by omega)
  refine ⟨_, rfl, _, rfl, a, al, rfl, hal.ne, by omega, _, S2, fun W u v H3 hu hv mu mv B3 S3 hW3 => ?_⟩
  refine ⟨_, rfl, a, 4, rfl, by omega, by omega, _, S3, fun rr H4 r0 r4 B4 S4 => ?_⟩
  obtain ⟨r, rfl⟩ : ∃ r : Nat, rr = (r : Int) := ⟨rr.toNat, by omega⟩
  have hr3 : r ≤ 3 := by omega
  obtain ⟨ys3, hy3⟩ := S3.lst
  have hW4 := seqT_but (K := K) B4 hy3 (SqT.of hW3)
  -- the game
  refine ⟨_, rfl, _, rfl, W, _, 0, .str (S u), rfl, rfl, hW4, rfl, _, rfl, W, _, 1, .str (S v), rfl, rfl, hW4, rfl, _, rfl, fun p dx np ndx nex => ?_⟩
  refine ⟨p, dx, al, u, v, r, rfl, upd_same, hA, mu, mv, by omega, by omega, fun H5 wt pt b5 h1 h2 h3 => ⟨rfl, ?_⟩⟩
  have s45 : Same H4 H5 := fun b o e => b5 b o (ne_of_none e np) (by rw [upd_ne (ne_of_none e np), upd_ne (ne_of_none e ndx)]; exact e)
  have G5 : GameSt H5 p C dx wt pt al u v r [] [] := ⟨h1, h2, h3, .nil⟩
  have I5 : LI K H5 p C dx wt pt al u v r [] [] a pp W := ⟨G5, S4.same s45, seqT s45 hW4⟩
  have nil_in : Inb u.length v.length [] := fun _ h => nomatch h
  -- wins
  refine ⟨_, rfl, p, dx, _, rfl, G5.o, gf_no _ _ _ _ (by decide +kernel), p, dx, wt, pt, al, u, v, r, [], [], rfl, G5, by omega, by omega, hr3, Nat.zero_le _, nil_in, fun win H6 s6 hwin => ?_⟩
  have hwin' : win = true ↔ Win r u v [] := hwin
  have I6 := I5.same s6
  have hd : Dp K H6 (.bl win) (.bool win) := .bl _
  refine ⟨_, rfl, _, _, _, _, _, rfl, .ty _, dp_ty hd, kit_bool _, _, rfl, ?_⟩
  refine ite2 (fun z => (nomatch z)) (fun _ => ?_)
  refine ⟨fun σ' H' => ∃ pt' qs', σ' = [some (.ref a0), some (.ref a), some (.str (S al)), some (.ref W), some (.int (r : Int)), some (.ref p), some (.bl win), none] ∧ LI K H' p C dx wt pt' al u v r [] qs' a pp W, ?_, ?_⟩
  · refine ⟨_, rfl, _, _, rfl, rfl, _, rfl, ?_⟩
    refine ite2 (fun e1 => ?_) (fun _ => ite2 (fun z => (nomatch z)) (fun _ => ⟨pt, [], rfl, I6⟩))
    refine ⟨_, rfl, W, _, 0, .str (S u), rfl, rfl, I6.w, rfl, _, rfl, sz (by rw [S_len]; omega), _, _, rfl, rfl, _, rfl, ?_⟩
    refine ite2 (fun _ => ?_) (fun _ => ite2 (fun z => (nomatch z)) (fun _ => ⟨pt, [], rfl, I6⟩))
    refine ⟨_, rfl, W, _, 1, .str (S v), rfl, rfl, I6.w, rfl, _, rfl, sz (by rw [S_len]; omega), _, _, rfl, rfl, _, rfl, ?_⟩
    refine ite2 (fun _ => ?_) (fun _ => ⟨pt, [], rfl, I6⟩)
    refine ⟨fun σ' H' => ∃ pt' qs', σ' = [some (.ref a0), some (.ref a), some (.str (S al)), some (.ref W), some (.int (r : Int)), some (.ref p), some (.bl win), none] ∧ LI K H' p C dx wt pt' al u v r [] qs' a pp W, ?_, ?_⟩
    · refine ⟨_, rfl, _, rfl, ?_⟩
      refine ite2 (fun hw => ?_) (fun _ => ite2 (fun z => (nomatch z)) (fun _ => ⟨pt, [], rfl, I6⟩))
      refine ⟨_, rfl, _, rfl, _, rfl, Nat.zero_le _, fun l hl => ?_⟩
      have s7 := same_new hl (.lst [])
      have I7 := I6.same s7
      refine ⟨r, hr3, p, dx, wt, pt, W, l, al, u, v, r, [], [], rfl, I7.g, I7.w, ⟨[], upd_same, .nil⟩, by omega, by omega, hr3, Nat.zero_add r, nil_in, hwin'.mp hw, fun H8 pt8 qs8 b8 G8 => ⟨_, rfl, ?_⟩⟩
      exact ite2 (fun z => (nomatch z)) (fun _ => ⟨pt8, qs8, rfl, I7.game b8 G8⟩)
    · rintro σ' H7 ⟨pt7, qs7, rfl, I7⟩
      refine ⟨_, rfl, _, rfl, ?_⟩
      refine ite2 (fun hw => ?_) (fun _ => ite2 (fun z => (nomatch z)) (fun _ => ⟨pt7, qs7, rfl, I7⟩))
      have hnw : ¬ Win r u v [] := fun z => by
        have := hwin'.mpr z
        subst this
        cases hw
      have q7 : qs7 = [] := List.length_eq_zero_iff.mp (Paired.length I7.g.q)
      subst q7
      refine ⟨_, rfl, _, rfl, _, rfl, Nat.zero_le _, fun l hl => ?_⟩
      have s8 := same_new hl (.lst [])
      have I8 := I7.same s8
      refine ⟨r, hr3, p, dx, wt, pt7, W, l, al, u, v, r, [], [], rfl, I8.g, I8.w, ⟨[], upd_same, .nil⟩, by omega, by omega, hr3, Nat.zero_add r, nil_in, hnw, fun H9 pt9 qs9 b9 G9 => ⟨_, rfl, ?_⟩⟩
      exact ite2 (fun z => (nomatch z)) (fun _ => ⟨pt9, qs9, rfl, I8.game b9 G9⟩)
  rintro σ' H7 ⟨pt7, qs7, rfl, I7⟩
  refine ⟨_, rfl, by omega, by omega, ?_⟩
  refine for_range (lo := 0) (n := (2 : Int).toNat) (fun i σ H' => ∃ (y7 : Option V) (pt' : Addr) (qs' : List Addr), σ = [some (.ref a0), some (.ref a), some (.str (S al)), some (.ref W), some (.int (r : Int)), some (.ref p), some (.bl win), y7] ∧ LI K H' p C dx wt pt' al u v r [] qs' a pp W) ⟨none, pt7, qs7, rfl, I7⟩ ?_ ?_
  · rintro i σ H8 hi ⟨y7, pt8, qs8, rfl, I8⟩
    refine ⟨_, rfl, _, rfl, _, rfl, _, rfl, _, rfl, p, dx, wt, pt8, a, pp, W, al, u, v, r, qs8, win, rfl, I8, by omega, by omega, hr3, hwin', fun H9 pt9 qs9 I9 => ⟨_, rfl, ?_⟩⟩
    exact ite2 (fun z => (nomatch z)) (fun _ => ⟨_, pt9, qs9, rfl, I9⟩)
  rintro σ H8 ⟨y7, pt8, qs8, rfl, I8⟩
  refine ⟨_, rfl, p, dx, _, rfl, I8.g.o, gf_no _ _ _ _ (by decide +kernel), p, dx, wt, pt8, al, u, v, r, [], qs8, rfl, I8.g, by omega, by omega, hr3, Nat.zero_le _, nil_in, fun bw H9 s9 hbw => ?_⟩
  obtain rfl : bw = win := bool_of_iff hwin' hbw
  have I9 := I8.same s9
  refine ⟨_, rfl, p, C, dx, _, _, rfl, I9.g.o, T.cl, T.nP, gf_pairs _ _ _ _, ?_⟩
  refine ⟨_, rfl, p, dx, _, rfl, I9.g.o, p, dx, wt, pt8, al, u, v, r, [], qs8, rfl, I9.g, 0, rfl, Nat.zero_le _, ?_⟩
  refine ⟨by show 3 ≤ sizeLine; decide, fun l1 hl1 => ?_⟩
  have s10 := same_new hl1 (.lst [.bl bw, .ref pt8, .int 0])
  refine ⟨_, rfl, Nat.zero_le _, fun t ht => ?_⟩
  have s11 := same_new ht (.tup [])
  refine ⟨by show 3 ≤ sizeLine; decide, fun l2 hl2 => ?_⟩
  have s12 := same_new hl2 (.lst [.bl bw, .ref t, .int 0])
  have sA := s11.trans s12
  have d1 := dp_mono (s10.trans sA) (I9.g.dp (K := K))
  have d2 : Dp K _ (.ref t) (.tuple (([] : Prs).map prD)) := .tup (SqT.of (s12 _ _ upd_same)) .nil
  have ok4 : okE 4 (.list [.bool bw, .tuple (([] : Prs).map prD), .int 0]) := ok_three trivial (okE_pairs (by decide)) trivial
  refine ⟨_, _, _, _, rfl, .lst (SqL.of (sA _ _ upd_same)) (.cons (.bl bw) (.cons d1 (.cons (.int 0) .nil))), .lst (SqL.of upd_same) (.cons (.bl bw) (.cons d2 (.cons (.int 0) .nil))), ok4, fun b13 H13 s13 hb13 => ?_⟩
  obtain rfl : b13 = true := hb13.mpr rfl
  exact q H13
end
end W8

set_option Elab.async false
set_option linter.all false
set_option maxRecDepth 100000
namespace W8
open PySem L2
theorem all_mk {l : PySem.W.OpenLaw} {w : World} {K : PySem.W.Frag} {h : Heap} {mg : Str → Option Value} (X : K.In h) (G : h.Ns mainGlobals mg)
    {t_ML t_SM u_G_MOST_ROUNDS : Tok}
    {od_letter_at an_letter_at : Option Addr}
    {sl_letter_at : Array (Option Value)}
    {oc_letter_at kV_letter_at dc_letter_at pm_letter_at cd_letter_at ct_letter_at : Value}
    {od_plain an_plain : Option Addr}
    {sl_plain : Array (Option Value)}
    {oc_plain kV_plain dc_plain pm_plain cd_plain ct_plain : Value}
    {od_kind an_kind : Option Addr}
    {sl_kind : Array (Option Value)}
    {oc_kind kV_kind dc_kind pm_kind cd_kind ct_kind : Value}
    {od_checkL an_checkL : Option Addr}
    {sl_checkL : Array (Option Value)}
    {oc_checkL kV_checkL dc_checkL pm_checkL cd_checkL ct_checkL : Value}
    {od_checkW an_checkW : Option Addr}
    {sl_checkW : Array (Option Value)}
    {oc_checkW kV_checkW dc_checkW pm_checkW cd_checkW ct_checkW : Value}
    {od_checkP an_checkP : Option Addr}
    {sl_checkP : Array (Option Value)}
    {oc_checkP kV_checkP dc_checkP pm_checkP cd_checkP ct_checkP : Value}
    {od_init an_init : Option Addr}
    {sl_init : Array (Option Value)}
    {oc_init kV_init dc_init pm_init cd_init ct_init : Value}
    {od_len an_len : Option Addr}
    {sl_len : Array (Option Value)}
    {oc_len kV_len dc_len pm_len cd_len ct_len : Value}
    {od_choice an_choice : Option Addr}
    {sl_choice : Array (Option Value)}
    {oc_choice kV_choice dc_choice pm_choice cd_choice ct_choice : Value}
    {od_play an_play : Option Addr}
    {sl_play : Array (Option Value)}
    {oc_play kV_play dc_play pm_play cd_play ct_play : Value}
    {od_back an_back : Option Addr}
    {sl_back : Array (Option Value)}
    {oc_back kV_back dc_back pm_back cd_back ct_back : Value}
    {od_wins an_wins : Option Addr}
    {sl_wins : Array (Option Value)}
    {oc_wins kV_wins dc_wins pm_wins cd_wins ct_wins : Value}
    {od_kinds an_kinds : Option Addr}
    {sl_kinds : Array (Option Value)}
    {oc_kinds kV_kinds dc_kinds pm_kinds cd_kinds ct_kinds : Value}
    {od_reply an_reply : Option Addr}
    {sl_reply : Array (Option Value)}
    {oc_reply kV_reply dc_reply pm_reply cd_reply ct_reply : Value}
    {od_attack an_attack : Option Addr}
    {sl_attack : Array (Option Value)}
    {oc_attack kV_attack dc_attack pm_attack cd_attack ct_attack : Value}
    {od_new an_new : Option Addr}
    {sl_new : Array (Option Value)}
    {oc_new kV_new dc_new pm_new cd_new ct_new : Value}
    {od_draw an_draw : Option Addr}
    {sl_draw : Array (Option Value)}
    {oc_draw kV_draw dc_draw pm_draw cd_draw ct_draw : Value}
    {od_same an_same : Option Addr}
    {sl_same : Array (Option Value)}
    {oc_same kV_same dc_same pm_same cd_same ct_same : Value}
    {od_letters an_letters : Option Addr}
    {sl_letters : Array (Option Value)}
    {oc_letters kV_letters dc_letters pm_letters cd_letters ct_letters : Value}
    {od_word an_word : Option Addr}
    {sl_word : Array (Option Value)}
    {oc_word kV_word dc_word pm_word cd_word ct_word : Value}
    {od_lplain an_lplain : Option Addr}
    {sl_lplain : Array (Option Value)}
    {oc_lplain kV_lplain dc_lplain pm_lplain cd_lplain ct_lplain : Value}
    {od_fit an_fit : Option Addr}
    {sl_fit : Array (Option Value)}
    {oc_fit kV_fit dc_fit pm_fit cd_fit ct_fit : Value}
    {od_lplace an_lplace : Option Addr}
    {sl_lplace : Array (Option Value)}
    {oc_lplace kV_lplace dc_lplace pm_lplace cd_lplace ct_lplace : Value}
    {od_aimed an_aimed : Option Addr}
    {sl_aimed : Array (Option Value)}
    {oc_aimed kV_aimed dc_aimed pm_aimed cd_aimed ct_aimed : Value}
    {od_pair an_pair : Option Addr}
    {sl_pair : Array (Option Value)}
    {oc_pair kV_pair dc_pair pm_pair cd_pair ct_pair : Value}
    {od_defended an_defended : Option Addr}
    {sl_defended : Array (Option Value)}
    {oc_defended kV_defended dc_defended pm_defended cd_defended ct_defended : Value}
    {od_attacked an_attacked : Option Addr}
    {sl_attacked : Array (Option Value)}
    {oc_attacked kV_attacked dc_attacked pm_attacked cd_attacked ct_attacked : Value}
    {od_line an_line : Option Addr}
    {sl_line : Array (Option Value)}
    {oc_line kV_line dc_line pm_line cd_line ct_line : Value}
    {od_drawn an_drawn : Option Addr}
    {sl_drawn : Array (Option Value)}
    {oc_drawn kV_drawn dc_drawn pm_drawn cd_drawn ct_drawn : Value}
    {od_law an_law : Option Addr}
    {sl_law : Array (Option Value)}
    {oc_law kV_law dc_law pm_law cd_law ct_law : Value}
    {fa C_G f_letter_at f_plain f_kind f_checkL f_checkW f_checkP f_init f_len f_choice f_play f_back f_wins f_kinds f_reply f_attack f_new f_draw f_same f_letters f_word f_lplain f_fit f_lplace f_aimed f_pair f_defended f_attacked f_line f_drawn f_law : Addr}
    (hfa : mg "law" = some (.ref fa))
    (aC_G : PySem.W.nsIn K mainGlobals "Game" = some (some (.ref C_G)))
    (a_letter_at : PySem.W.nsIn K mainGlobals "letter_at" = some (some (.ref f_letter_at)))
    (l_letter_at : K.lookup f_letter_at = some ⟨oc_letter_at, od_letter_at, .func (PySem.W.fnOf "letter_at" "letter_at" (defArgs sLetter_at) (defBody sLetter_at) (defScope sLetter_at) .none kV_letter_at dc_letter_at pm_letter_at an_letter_at cd_letter_at ct_letter_at), sl_letter_at⟩)
    (c_letter_at : PySem.W.codeIn K cd_letter_at "letter_at" = true)
    (k_letter_at : PySem.W.keepIn K (.ref f_letter_at) = true)
    (a_plain : PySem.W.nsIn K mainGlobals "plain_kind" = some (some (.ref f_plain)))
    (l_plain : K.lookup f_plain = some ⟨oc_plain, od_plain, .func (PySem.W.fnOf "plain_kind" "plain_kind" (defArgs sPlain) (defBody sPlain) (defScope sPlain) .none kV_plain dc_plain pm_plain an_plain cd_plain ct_plain), sl_plain⟩)
    (c_plain : PySem.W.codeIn K cd_plain "plain_kind" = true)
    (k_plain : PySem.W.keepIn K (.ref f_plain) = true)
    (a_kind : PySem.W.nsIn K mainGlobals "kind_number" = some (some (.ref f_kind)))
    (l_kind : K.lookup f_kind = some ⟨oc_kind, od_kind, .func (PySem.W.fnOf "kind_number" "kind_number" (defArgs sKindN) (defBody sKindN) (defScope sKindN) .none kV_kind dc_kind pm_kind an_kind cd_kind ct_kind), sl_kind⟩)
    (c_kind : PySem.W.codeIn K cd_kind "kind_number" = true)
    (k_kind : PySem.W.keepIn K (.ref f_kind) = true)
    (a_checkL : PySem.W.nsIn K mainGlobals "check_letters" = some (some (.ref f_checkL)))
    (l_checkL : K.lookup f_checkL = some ⟨oc_checkL, od_checkL, .func (PySem.W.fnOf "check_letters" "check_letters" (defArgs sCheckL) (defBody sCheckL) (defScope sCheckL) .none kV_checkL dc_checkL pm_checkL an_checkL cd_checkL ct_checkL), sl_checkL⟩)
    (c_checkL : PySem.W.codeIn K cd_checkL "check_letters" = true)
    (k_checkL : PySem.W.keepIn K (.ref f_checkL) = true)
    (a_checkW : PySem.W.nsIn K mainGlobals "check_word" = some (some (.ref f_checkW)))
    (l_checkW : K.lookup f_checkW = some ⟨oc_checkW, od_checkW, .func (PySem.W.fnOf "check_word" "check_word" (defArgs sCheckW) (defBody sCheckW) (defScope sCheckW) .none kV_checkW dc_checkW pm_checkW an_checkW cd_checkW ct_checkW), sl_checkW⟩)
    (c_checkW : PySem.W.codeIn K cd_checkW "check_word" = true)
    (k_checkW : PySem.W.keepIn K (.ref f_checkW) = true)
    (a_checkP : PySem.W.nsIn K mainGlobals "check_place" = some (some (.ref f_checkP)))
    (l_checkP : K.lookup f_checkP = some ⟨oc_checkP, od_checkP, .func (PySem.W.fnOf "check_place" "check_place" (defArgs sCheck_place) (defBody sCheck_place) (defScope sCheck_place) .none kV_checkP dc_checkP pm_checkP an_checkP cd_checkP ct_checkP), sl_checkP⟩)
    (c_checkP : PySem.W.codeIn K cd_checkP "check_place" = true)
    (k_checkP : PySem.W.keepIn K (.ref f_checkP) = true)
    (a_init : PySem.W.findIn K (.ref C_G) "__init__" = some (some (.ref f_init)))
    (i_init : PySem.W.isFn K (.ref f_init) = true)
    (l_init : K.lookup f_init = some ⟨oc_init, od_init, .func (PySem.W.fnOf "__init__" "Game.__init__" (defArgs sInit) (defBody sInit) (defScope sInit) .none kV_init dc_init pm_init an_init cd_init ct_init), sl_init⟩)
    (c_init : PySem.W.codeIn K cd_init "Game.__init__" = true)
    (k_init : PySem.W.keepIn K (.ref f_init) = true)
    (a_len : PySem.W.findIn K (.ref C_G) "__len__" = some (some (.ref f_len)))
    (i_len : PySem.W.isFn K (.ref f_len) = true)
    (l_len : K.lookup f_len = some ⟨oc_len, od_len, .func (PySem.W.fnOf "__len__" "Game.__len__" (defArgs sLenG) (defBody sLenG) (defScope sLenG) .none kV_len dc_len pm_len an_len cd_len ct_len), sl_len⟩)
    (c_len : PySem.W.codeIn K cd_len "Game.__len__" = true)
    (k_len : PySem.W.keepIn K (.ref f_len) = true)
    (a_choice : PySem.W.findIn K (.ref C_G) "check_choice" = some (some (.ref f_choice)))
    (i_choice : PySem.W.isFn K (.ref f_choice) = true)
    (l_choice : K.lookup f_choice = some ⟨oc_choice, od_choice, .func (PySem.W.fnOf "check_choice" "Game.check_choice" (defArgs sChoice) (defBody sChoice) (defScope sChoice) .none kV_choice dc_choice pm_choice an_choice cd_choice ct_choice), sl_choice⟩)
    (c_choice : PySem.W.codeIn K cd_choice "Game.check_choice" = true)
    (k_choice : PySem.W.keepIn K (.ref f_choice) = true)
    (a_play : PySem.W.findIn K (.ref C_G) "play" = some (some (.ref f_play)))
    (i_play : PySem.W.isFn K (.ref f_play) = true)
    (l_play : K.lookup f_play = some ⟨oc_play, od_play, .func (PySem.W.fnOf "play" "Game.play" (defArgs sPlay) (defBody sPlay) (defScope sPlay) .none kV_play dc_play pm_play an_play cd_play ct_play), sl_play⟩)
    (c_play : PySem.W.codeIn K cd_play "Game.play" = true)
    (k_play : PySem.W.keepIn K (.ref f_play) = true)
    (a_back : PySem.W.findIn K (.ref C_G) "back" = some (some (.ref f_back)))
    (i_back : PySem.W.isFn K (.ref f_back) = true)
    (l_back : K.lookup f_back = some ⟨oc_back, od_back, .func (PySem.W.fnOf "back" "Game.back" (defArgs sBack) (defBody sBack) (defScope sBack) .none kV_back dc_back pm_back an_back cd_back ct_back), sl_back⟩)
    (c_back : PySem.W.codeIn K cd_back "Game.back" = true)
    (k_back : PySem.W.keepIn K (.ref f_back) = true)
    (a_wins : PySem.W.findIn K (.ref C_G) "wins" = some (some (.ref f_wins)))
    (i_wins : PySem.W.isFn K (.ref f_wins) = true)
    (l_wins : K.lookup f_wins = some ⟨oc_wins, od_wins, .func (PySem.W.fnOf "wins" "Game.wins" (defArgs sWins) (defBody sWins) (defScope sWins) .none kV_wins dc_wins pm_wins an_wins cd_wins ct_wins), sl_wins⟩)
    (c_wins : PySem.W.codeIn K cd_wins "Game.wins" = true)
    (k_wins : PySem.W.keepIn K (.ref f_wins) = true)
    (a_kinds : PySem.W.findIn K (.ref C_G) "kinds" = some (some (.ref f_kinds)))
    (i_kinds : PySem.W.isFn K (.ref f_kinds) = true)
    (l_kinds : K.lookup f_kinds = some ⟨oc_kinds, od_kinds, .func (PySem.W.fnOf "kinds" "Game.kinds" (defArgs sKinds) (defBody sKinds) (defScope sKinds) .none kV_kinds dc_kinds pm_kinds an_kinds cd_kinds ct_kinds), sl_kinds⟩)
    (c_kinds : PySem.W.codeIn K cd_kinds "Game.kinds" = true)
    (k_kinds : PySem.W.keepIn K (.ref f_kinds) = true)
    (a_reply : PySem.W.findIn K (.ref C_G) "reply" = some (some (.ref f_reply)))
    (i_reply : PySem.W.isFn K (.ref f_reply) = true)
    (l_reply : K.lookup f_reply = some ⟨oc_reply, od_reply, .func (PySem.W.fnOf "reply" "Game.reply" (defArgs sReply) (defBody sReply) (defScope sReply) .none kV_reply dc_reply pm_reply an_reply cd_reply ct_reply), sl_reply⟩)
    (c_reply : PySem.W.codeIn K cd_reply "Game.reply" = true)
    (k_reply : PySem.W.keepIn K (.ref f_reply) = true)
    (a_attack : PySem.W.findIn K (.ref C_G) "attack" = some (some (.ref f_attack)))
    (i_attack : PySem.W.isFn K (.ref f_attack) = true)
    (l_attack : K.lookup f_attack = some ⟨oc_attack, od_attack, .func (PySem.W.fnOf "attack" "Game.attack" (defArgs sAttack) (defBody sAttack) (defScope sAttack) .none kV_attack dc_attack pm_attack an_attack cd_attack ct_attack), sl_attack⟩)
    (c_attack : PySem.W.codeIn K cd_attack "Game.attack" = true)
    (k_attack : PySem.W.keepIn K (.ref f_attack) = true)
    (a_new : PySem.W.nsIn K mainGlobals "_law_new" = some (some (.ref f_new)))
    (l_new : K.lookup f_new = some ⟨oc_new, od_new, .func (PySem.W.fnOf "_law_new" "_law_new" (defArgs sNew) (defBody sNew) (defScope sNew) .none kV_new dc_new pm_new an_new cd_new ct_new), sl_new⟩)
    (c_new : PySem.W.codeIn K cd_new "_law_new" = true)
    (k_new : PySem.W.keepIn K (.ref f_new) = true)
    (a_draw : PySem.W.nsIn K mainGlobals "_law_draw" = some (some (.ref f_draw)))
    (l_draw : K.lookup f_draw = some ⟨oc_draw, od_draw, .func (PySem.W.fnOf "_law_draw" "_law_draw" (defArgs sDraw) (defBody sDraw) (defScope sDraw) .none kV_draw dc_draw pm_draw an_draw cd_draw ct_draw), sl_draw⟩)
    (c_draw : PySem.W.codeIn K cd_draw "_law_draw" = true)
    (k_draw : PySem.W.keepIn K (.ref f_draw) = true)
    (a_same : PySem.W.nsIn K mainGlobals "_law_same" = some (some (.ref f_same)))
    (l_same : K.lookup f_same = some ⟨oc_same, od_same, .func (PySem.W.fnOf "_law_same" "_law_same" (defArgs sSame) (defBody sSame) (defScope sSame) .none kV_same dc_same pm_same an_same cd_same ct_same), sl_same⟩)
    (c_same : PySem.W.codeIn K cd_same "_law_same" = true)
    (k_same : PySem.W.keepIn K (.ref f_same) = true)
    (a_letters : PySem.W.nsIn K mainGlobals "_law_letters" = some (some (.ref f_letters)))
    (l_letters : K.lookup f_letters = some ⟨oc_letters, od_letters, .func (PySem.W.fnOf "_law_letters" "_law_letters" (defArgs sLetters) (defBody sLetters) (defScope sLetters) .none kV_letters dc_letters pm_letters an_letters cd_letters ct_letters), sl_letters⟩)
    (c_letters : PySem.W.codeIn K cd_letters "_law_letters" = true)
    (k_letters : PySem.W.keepIn K (.ref f_letters) = true)
    (a_word : PySem.W.nsIn K mainGlobals "_law_word" = some (some (.ref f_word)))
    (l_word : K.lookup f_word = some ⟨oc_word, od_word, .func (PySem.W.fnOf "_law_word" "_law_word" (defArgs sWord) (defBody sWord) (defScope sWord) .none kV_word dc_word pm_word an_word cd_word ct_word), sl_word⟩)
    (c_word : PySem.W.codeIn K cd_word "_law_word" = true)
    (k_word : PySem.W.keepIn K (.ref f_word) = true)
    (a_lplain : PySem.W.nsIn K mainGlobals "_law_plain" = some (some (.ref f_lplain)))
    (l_lplain : K.lookup f_lplain = some ⟨oc_lplain, od_lplain, .func (PySem.W.fnOf "_law_plain" "_law_plain" (defArgs sLPlain) (defBody sLPlain) (defScope sLPlain) .none kV_lplain dc_lplain pm_lplain an_lplain cd_lplain ct_lplain), sl_lplain⟩)
    (c_lplain : PySem.W.codeIn K cd_lplain "_law_plain" = true)
    (k_lplain : PySem.W.keepIn K (.ref f_lplain) = true)
    (a_fit : PySem.W.nsIn K mainGlobals "_law_fit" = some (some (.ref f_fit)))
    (l_fit : K.lookup f_fit = some ⟨oc_fit, od_fit, .func (PySem.W.fnOf "_law_fit" "_law_fit" (defArgs sFit) (defBody sFit) (defScope sFit) .none kV_fit dc_fit pm_fit an_fit cd_fit ct_fit), sl_fit⟩)
    (c_fit : PySem.W.codeIn K cd_fit "_law_fit" = true)
    (k_fit : PySem.W.keepIn K (.ref f_fit) = true)
    (a_lplace : PySem.W.nsIn K mainGlobals "_law_place" = some (some (.ref f_lplace)))
    (l_lplace : K.lookup f_lplace = some ⟨oc_lplace, od_lplace, .func (PySem.W.fnOf "_law_place" "_law_place" (defArgs sLPlace) (defBody sLPlace) (defScope sLPlace) .none kV_lplace dc_lplace pm_lplace an_lplace cd_lplace ct_lplace), sl_lplace⟩)
    (c_lplace : PySem.W.codeIn K cd_lplace "_law_place" = true)
    (k_lplace : PySem.W.keepIn K (.ref f_lplace) = true)
    (a_aimed : PySem.W.nsIn K mainGlobals "_law_aimed" = some (some (.ref f_aimed)))
    (l_aimed : K.lookup f_aimed = some ⟨oc_aimed, od_aimed, .func (PySem.W.fnOf "_law_aimed" "_law_aimed" (defArgs sAimed) (defBody sAimed) (defScope sAimed) .none kV_aimed dc_aimed pm_aimed an_aimed cd_aimed ct_aimed), sl_aimed⟩)
    (c_aimed : PySem.W.codeIn K cd_aimed "_law_aimed" = true)
    (k_aimed : PySem.W.keepIn K (.ref f_aimed) = true)
    (a_pair : PySem.W.nsIn K mainGlobals "_law_pair" = some (some (.ref f_pair)))
    (l_pair : K.lookup f_pair = some ⟨oc_pair, od_pair, .func (PySem.W.fnOf "_law_pair" "_law_pair" (defArgs sPair) (defBody sPair) (defScope sPair) .none kV_pair dc_pair pm_pair an_pair cd_pair ct_pair), sl_pair⟩)
    (c_pair : PySem.W.codeIn K cd_pair "_law_pair" = true)
    (k_pair : PySem.W.keepIn K (.ref f_pair) = true)
    (a_defended : PySem.W.nsIn K mainGlobals "_law_defended" = some (some (.ref f_defended)))
    (l_defended : K.lookup f_defended = some ⟨oc_defended, od_defended, .func (PySem.W.fnOf "_law_defended" "_law_defended" (defArgs sDefended) (defBody sDefended) (defScope sDefended) .none kV_defended dc_defended pm_defended an_defended cd_defended ct_defended), sl_defended⟩)
    (c_defended : PySem.W.codeIn K cd_defended "_law_defended" = true)
    (k_defended : PySem.W.keepIn K (.ref f_defended) = true)
    (a_attacked : PySem.W.nsIn K mainGlobals "_law_attacked" = some (some (.ref f_attacked)))
    (l_attacked : K.lookup f_attacked = some ⟨oc_attacked, od_attacked, .func (PySem.W.fnOf "_law_attacked" "_law_attacked" (defArgs sAttacked) (defBody sAttacked) (defScope sAttacked) .none kV_attacked dc_attacked pm_attacked an_attacked cd_attacked ct_attacked), sl_attacked⟩)
    (c_attacked : PySem.W.codeIn K cd_attacked "_law_attacked" = true)
    (k_attacked : PySem.W.keepIn K (.ref f_attacked) = true)
    (a_line : PySem.W.nsIn K mainGlobals "_law_line" = some (some (.ref f_line)))
    (l_line : K.lookup f_line = some ⟨oc_line, od_line, .func (PySem.W.fnOf "_law_line" "_law_line" (defArgs sLine) (defBody sLine) (defScope sLine) .none kV_line dc_line pm_line an_line cd_line ct_line), sl_line⟩)
    (c_line : PySem.W.codeIn K cd_line "_law_line" = true)
    (k_line : PySem.W.keepIn K (.ref f_line) = true)
    (a_drawn : PySem.W.nsIn K mainGlobals "_law_words_drawn" = some (some (.ref f_drawn)))
    (l_drawn : K.lookup f_drawn = some ⟨oc_drawn, od_drawn, .func (PySem.W.fnOf "_law_words_drawn" "_law_words_drawn" (defArgs sWords_drawn) (defBody sWords_drawn) (defScope sWords_drawn) .none kV_drawn dc_drawn pm_drawn an_drawn cd_drawn ct_drawn), sl_drawn⟩)
    (c_drawn : PySem.W.codeIn K cd_drawn "_law_words_drawn" = true)
    (k_drawn : PySem.W.keepIn K (.ref f_drawn) = true)
    (a_law : PySem.W.nsIn K mainGlobals "law" = some (some (.ref f_law)))
    (l_law : K.lookup f_law = some ⟨oc_law, od_law, .func (PySem.W.fnOf "law" "law" (defArgs sLaw) (defBody sLaw) (defScope sLaw) .none kV_law dc_law pm_law an_law cd_law ct_law), sl_law⟩)
    (c_law : PySem.W.codeIn K cd_law "law" = true)
    (k_law : PySem.W.keepIn K (.ref f_law) = true)
    (pg_G : PySem.W.plainGet K C_G Str.empty = true)
    (hd_G : PySem.W.hasDictIn K C_G = true)
    (po_G : PySem.W.plainOver K C_G = true)
    (sa_G : PySem.W.findIn K (.ref C_G) "__setattr__" = some (some (.builtin "object.__setattr__")))
    (mk_G : PySem.W.makesIn K C_G = true)
    (kc_G : PySem.W.keepIn K (.ref C_G) = true)
    (n_G_letters : PySem.W.findIn K (.ref C_G) "letters" = some none)
    (n_G_words : PySem.W.findIn K (.ref C_G) "words" = some none)
    (n_G_rounds : PySem.W.findIn K (.ref C_G) "rounds" = some none)
    (n_G_pairs : PySem.W.findIn K (.ref C_G) "pairs" = some none)
    (g_ML : PySem.W.nsIn K mainGlobals "MOST_LETTERS" = some (some (.int 3 t_ML)))
    (g_SM : PySem.W.nsIn K mainGlobals "SMALL" = some (some (.str "abcdefghijklmnopqrstuvwxyz" t_SM)))
    (co_G_MOST_ROUNDS : PySem.W.findIn K (.ref C_G) "MOST_ROUNDS" = some (some (.int 3 u_G_MOST_ROUNDS)))
    (cg_G_MOST_ROUNDS : PySem.W.specialIn K (.int 3 u_G_MOST_ROUNDS) "__get__" = some none)
    (z_len : PySem.W.nsIn K mainGlobals "len" = some none)
    (z_int : PySem.W.nsIn K mainGlobals "int" = some none)
    (z_range : PySem.W.nsIn K mainGlobals "range" = some none)
    (z_tuple : PySem.W.nsIn K mainGlobals "tuple" = some none)
    (z_set : PySem.W.nsIn K mainGlobals "set" = some none)
    (z_sorted : PySem.W.nsIn K mainGlobals "sorted" = some none)
    (z_enumerate : PySem.W.nsIn K mainGlobals "enumerate" = some none)
    (z_max : PySem.W.nsIn K mainGlobals "max" = some none)
    (z_list : PySem.W.nsIn K mainGlobals "list" = some none)
    (z_isinstance : PySem.W.nsIn K mainGlobals "isinstance" = some none)
    (z_bool : PySem.W.nsIn K mainGlobals "bool" = some none)
    (z_str : PySem.W.nsIn K mainGlobals "str" = some none)
    : ∃ fd : FuncData, (∀ (s : Shared) (v : Value), BindsTo s fd ⟨[v], []⟩ [("script", v)]) ∧ ∀ base : Heap, K.In base → base.Ns mainGlobals mg → FnOk l.prog w K mg base CX0 12 fa fd ["script"] (spLaw K) := by
  have e := hfa.symm.trans (PySem.W.mg_of X G a_law)
  cases e
  have F_letter_at := fun_mk (st := sLetter_at) l_letter_at c_letter_at k_letter_at
  have b_letter_at := F_letter_at.binds (ps := ["word", "place"]) fun _ _ _ _ _ _ us hl => match us, hl with | [_, _], _ => rfl
  have m_letter_at := PySem.W.mg_of X G a_letter_at
  have F_plain := fun_mk (st := sPlain) l_plain c_plain k_plain
  have b_plain := F_plain.binds (ps := ["word", "places"]) fun _ _ _ _ _ _ us hl => match us, hl with | [_, _], _ => rfl
  have m_plain := PySem.W.mg_of X G a_plain
  have F_kind := fun_mk (st := sKindN) l_kind c_kind k_kind
  have b_kind := F_kind.binds (ps := ["word", "places", "rounds", "numbers"]) fun _ _ _ _ _ _ us hl => match us, hl with | [_, _, _, _], _ => rfl
  have m_kind := PySem.W.mg_of X G a_kind
  have F_checkL := fun_mk (st := sCheckL) l_checkL c_checkL k_checkL
  have b_checkL := F_checkL.binds (ps := ["letters"]) fun _ _ _ _ _ _ us hl => match us, hl with | [_], _ => rfl
  have m_checkL := PySem.W.mg_of X G a_checkL
  have F_checkW := fun_mk (st := sCheckW) l_checkW c_checkW k_checkW
  have b_checkW := F_checkW.binds (ps := ["word", "letters"]) fun _ _ _ _ _ _ us hl => match us, hl with | [_, _], _ => rfl
  have m_checkW := PySem.W.mg_of X G a_checkW
  have F_checkP := fun_mk (st := sCheck_place) l_checkP c_checkP k_checkP
  have b_checkP := F_checkP.binds (ps := ["place", "word"]) fun _ _ _ _ _ _ us hl => match us, hl with | [_, _], _ => rfl
  have m_checkP := PySem.W.mg_of X G a_checkP
  have F_init := fun_mk (st := sInit) l_init c_init k_init
  have b_init := F_init.binds (ps := ["self", "letters", "one", "other", "rounds"]) fun _ _ _ _ _ _ us hl => match us, hl with | [_, _, _, _, _], _ => rfl
  have me_init : Meth K C_G "__init__" f_init := ⟨a_init, i_init, k_init⟩
  have F_len := fun_mk (st := sLenG) l_len c_len k_len
  have b_len := F_len.binds (ps := ["self"]) fun _ _ _ _ _ _ us hl => match us, hl with | [_], _ => rfl
  have me_len : Meth K C_G "__len__" f_len := ⟨a_len, i_len, k_len⟩
  have F_choice := fun_mk (st := sChoice) l_choice c_choice k_choice
  have b_choice := F_choice.binds (ps := ["self", "side", "place"]) fun _ _ _ _ _ _ us hl => match us, hl with | [_, _, _], _ => rfl
  have me_choice : Meth K C_G "check_choice" f_choice := ⟨a_choice, i_choice, k_choice⟩
  have F_play := fun_mk (st := sPlay) l_play c_play k_play
  have b_play := F_play.binds (ps := ["self", "side", "place", "answer"]) fun _ _ _ _ _ _ us hl => match us, hl with | [_, _, _, _], _ => rfl
  have me_play : Meth K C_G "play" f_play := ⟨a_play, i_play, k_play⟩
  have F_back := fun_mk (st := sBack) l_back c_back k_back
  have b_back := F_back.binds (ps := ["self"]) fun _ _ _ _ _ _ us hl => match us, hl with | [_], _ => rfl
  have me_back : Meth K C_G "back" f_back := ⟨a_back, i_back, k_back⟩
  have F_wins := fun_mk (st := sWins) l_wins c_wins k_wins
  have b_wins := F_wins.binds (ps := ["self"]) fun _ _ _ _ _ _ us hl => match us, hl with | [_], _ => rfl
  have me_wins : Meth K C_G "wins" f_wins := ⟨a_wins, i_wins, k_wins⟩
  have F_kinds := fun_mk (st := sKinds) l_kinds c_kinds k_kinds
  have b_kinds := F_kinds.binds (ps := ["self", "side", "numbers"]) fun _ _ _ _ _ _ us hl => match us, hl with | [_, _, _], _ => rfl
  have me_kinds : Meth K C_G "kinds" f_kinds := ⟨a_kinds, i_kinds, k_kinds⟩
  have F_reply := fun_mk (st := sReply) l_reply c_reply k_reply
  have b_reply := F_reply.binds (ps := ["self", "side", "place"]) fun _ _ _ _ _ _ us hl => match us, hl with | [_, _, _], _ => rfl
  have me_reply : Meth K C_G "reply" f_reply := ⟨a_reply, i_reply, k_reply⟩
  have F_attack := fun_mk (st := sAttack) l_attack c_attack k_attack
  have b_attack := F_attack.binds (ps := ["self"]) fun _ _ _ _ _ _ us hl => match us, hl with | [_], _ => rfl
  have me_attack : Meth K C_G "attack" f_attack := ⟨a_attack, i_attack, k_attack⟩
  have F_new := fun_mk (st := sNew) l_new c_new k_new
  have b_new := F_new.binds (ps := ["script"]) fun _ _ _ _ _ _ us hl => match us, hl with | [_], _ => rfl
  have m_new := PySem.W.mg_of X G a_new
  have F_draw := fun_mk (st := sDraw) l_draw c_draw k_draw
  have b_draw := F_draw.binds (ps := ["state", "many"]) fun _ _ _ _ _ _ us hl => match us, hl with | [_, _], _ => rfl
  have m_draw := PySem.W.mg_of X G a_draw
  have F_same := fun_mk (st := sSame) l_same c_same k_same
  have b_same := F_same.binds (ps := ["actual", "expected"]) fun _ _ _ _ _ _ us hl => match us, hl with | [_, _], _ => rfl
  have m_same := PySem.W.mg_of X G a_same
  have F_letters := fun_mk (st := sLetters) l_letters c_letters k_letters
  have b_letters := F_letters.binds (ps := ["state", "most"]) fun _ _ _ _ _ _ us hl => match us, hl with | [_, _], _ => rfl
  have m_letters := PySem.W.mg_of X G a_letters
  have F_word := fun_mk (st := sWord) l_word c_word k_word
  have b_word := F_word.binds (ps := ["state", "letters", "most"]) fun _ _ _ _ _ _ us hl => match us, hl with | [_, _, _], _ => rfl
  have m_word := PySem.W.mg_of X G a_word
  have F_lplain := fun_mk (st := sLPlain) l_lplain c_lplain k_lplain
  have b_lplain := F_lplain.binds (ps := ["word", "places"]) fun _ _ _ _ _ _ us hl => match us, hl with | [_, _], _ => rfl
  have m_lplain := PySem.W.mg_of X G a_lplain
  have F_fit := fun_mk (st := sFit) l_fit c_fit k_fit
  have b_fit := F_fit.binds (ps := ["words", "pairs"]) fun _ _ _ _ _ _ us hl => match us, hl with | [_, _], _ => rfl
  have m_fit := PySem.W.mg_of X G a_fit
  have F_lplace := fun_mk (st := sLPlace) l_lplace c_lplace k_lplace
  have b_lplace := F_lplace.binds (ps := ["place", "word"]) fun _ _ _ _ _ _ us hl => match us, hl with | [_, _], _ => rfl
  have m_lplace := PySem.W.mg_of X G a_lplace
  have F_aimed := fun_mk (st := sAimed) l_aimed c_aimed k_aimed
  have b_aimed := F_aimed.binds (ps := ["told", "words"]) fun _ _ _ _ _ _ us hl => match us, hl with | [_, _], _ => rfl
  have m_aimed := PySem.W.mg_of X G a_aimed
  have F_pair := fun_mk (st := sPair) l_pair c_pair k_pair
  have b_pair := F_pair.binds (ps := ["side", "place", "answer"]) fun _ _ _ _ _ _ us hl => match us, hl with | [_, _, _], _ => rfl
  have m_pair := PySem.W.mg_of X G a_pair
  have F_defended := fun_mk (st := sDefended) l_defended c_defended k_defended
  have b_defended := F_defended.binds (ps := ["game", "words", "left", "pairs"]) fun _ _ _ _ _ _ us hl => match us, hl with | [_, _, _, _], _ => rfl
  have m_defended := PySem.W.mg_of X G a_defended
  have F_attacked := fun_mk (st := sAttacked) l_attacked c_attacked k_attacked
  have b_attacked := F_attacked.binds (ps := ["game", "words", "left", "pairs"]) fun _ _ _ _ _ _ us hl => match us, hl with | [_, _, _, _], _ => rfl
  have m_attacked := PySem.W.mg_of X G a_attacked
  have F_line := fun_mk (st := sLine) l_line c_line k_line
  have b_line := F_line.binds (ps := ["state", "game", "words", "rounds", "wins"]) fun _ _ _ _ _ _ us hl => match us, hl with | [_, _, _, _, _], _ => rfl
  have m_line := PySem.W.mg_of X G a_line
  have F_drawn := fun_mk (st := sWords_drawn) l_drawn c_drawn k_drawn
  have b_drawn := F_drawn.binds (ps := ["state", "letters"]) fun _ _ _ _ _ _ us hl => match us, hl with | [_, _], _ => rfl
  have m_drawn := PySem.W.mg_of X G a_drawn
  have F_law := fun_mk (st := sLaw) l_law c_law k_law
  have mC_G := PySem.W.mg_of X G aC_G
  have cl_G : Cls K C_G := ⟨pg_G, hd_G, po_G, sa_G⟩
  have M_G : Mk K C_G f_init := ⟨mk_G, a_init, i_init, kc_G⟩
  have mg_ML := PySem.W.mg_of X G g_ML
  have mg_SM := PySem.W.mg_of X G g_SM
  have con_G_MOST_ROUNDS : ∃ u, Con K C_G "MOST_ROUNDS" (.int 3) u := ⟨_, co_G_MOST_ROUNDS, ⟨_, rfl⟩, cg_G_MOST_ROUNDS, by decide⟩
  have o_len := PySem.W.mg_none_of X G z_len
  have o_int := PySem.W.mg_none_of X G z_int
  have o_range := PySem.W.mg_none_of X G z_range
  have o_tuple := PySem.W.mg_none_of X G z_tuple
  have o_set := PySem.W.mg_none_of X G z_set
  have o_sorted := PySem.W.mg_none_of X G z_sorted
  have o_enumerate := PySem.W.mg_none_of X G z_enumerate
  have o_max := PySem.W.mg_none_of X G z_max
  have o_list := PySem.W.mg_none_of X G z_list
  have o_isinstance := PySem.W.mg_none_of X G z_isinstance
  have o_bool := PySem.W.mg_none_of X G z_bool
  have o_str := PySem.W.mg_none_of X G z_str
  have TG : GameT K mg C_G := ⟨cl_G, n_G_letters, n_G_words, n_G_rounds, n_G_pairs, con_G_MOST_ROUNDS, mC_G⟩
  have TS : SameT mg := ⟨o_isinstance, o_bool, o_int, o_str, o_list, o_tuple, o_len, o_range⟩
  refine ⟨PySem.W.fnOf "law" "law" (defArgs sLaw) (defBody sLaw) (defScope sLaw) .none kV_law dc_law pm_law an_law cd_law ct_law, fun s v => .of_eq rfl, fun base _ _ => ?_⟩
  have cDraw : Cal l.prog w K mg base "_law_draw" 1 ["state", "many"] (spDraw K) := ⟨_, _, ok_draw F_draw o_len o_int, m_draw, F_draw.kp, b_draw⟩
  have cWord : Cal l.prog w K mg base "_law_word" 2 ["state", "letters", "most"] (spWord K) := ⟨_, _, ok_word F_word o_range o_len cDraw, m_word, F_word.kp, b_word⟩
  have cS0 : Cal l.prog w K mg base "_law_same" 0 ["actual", "expected"] (spSame K 0) := ⟨_, _, same0, m_same, F_same.kp, b_same⟩
  have cS1 : Cal l.prog w K mg base "_law_same" 1 ["actual", "expected"] (spSame K 1) := ⟨_, _, sameS F_same TS cS0, m_same, F_same.kp, b_same⟩
  have cS2 : Cal l.prog w K mg base "_law_same" 2 ["actual", "expected"] (spSame K 2) := ⟨_, _, sameS F_same TS cS1, m_same, F_same.kp, b_same⟩
  have cS3 : Cal l.prog w K mg base "_law_same" 3 ["actual", "expected"] (spSame K 3) := ⟨_, _, sameS F_same TS cS2, m_same, F_same.kp, b_same⟩
  have cS4 : Cal l.prog w K mg base "_law_same" 4 ["actual", "expected"] (spSame K 4) := ⟨_, _, sameS F_same TS cS3, m_same, F_same.kp, b_same⟩
  have cLA : Cal l.prog w K mg base "letter_at" 1 ["word", "place"] (spLetter_at) := ⟨_, _, ok_letter_at F_letter_at, m_letter_at, F_letter_at.kp, b_letter_at⟩
  have cPl : Cal l.prog w K mg base "plain_kind" 2 ["word", "places"] (spPlain K) := ⟨_, _, ok_plain F_plain o_tuple o_int cLA, m_plain, F_plain.kp, b_plain⟩
  have cK := ok_kind (base := base) (P := l.prog) F_kind b_kind m_kind o_len o_range o_tuple o_set o_sorted cPl
  have cCL : Cal l.prog w K mg base "check_letters" 1 ["letters"] (spCheckL) := ⟨_, _, ok_checkL F_checkL o_len mg_ML mg_SM, m_checkL, F_checkL.kp, b_checkL⟩
  have cCW : Cal l.prog w K mg base "check_word" 1 ["word", "letters"] (spCheckW) := ⟨_, _, ok_checkW F_checkW o_enumerate, m_checkW, F_checkW.kp, b_checkW⟩
  have cCP : Cal l.prog w K mg base "check_place" 1 ["place", "word"] (spCheck_place) := ⟨_, _, ok_check_place F_checkP o_len, m_checkP, F_checkP.kp, b_checkP⟩
  have GI := ok_init F_init TG cCL cCW
  have cLen : MCal l.prog w K mg base C_G "__len__" 1 ["self"] (spLenG C_G) := ⟨_, _, ok_lenG F_len TG o_len, me_len, b_len⟩
  have cCh : MCal l.prog w K mg base C_G "check_choice" 2 ["self", "side", "place"] (spChoice C_G) := ⟨_, _, ok_choice F_choice TG o_len cCP, me_choice, b_choice⟩
  have cPlay : MCal l.prog w K mg base C_G "play" 3 ["self", "side", "place", "answer"] (spPlay C_G) := ⟨_, _, ok_play F_play TG cCP cCh, me_play, b_play⟩
  have cBack : MCal l.prog w K mg base C_G "back" 1 ["self"] (spBack C_G) := ⟨_, _, ok_back F_back TG o_len, me_back, b_back⟩
  have cWins : MCal l.prog w K mg base C_G "wins" 7 ["self"] (spWins C_G) := ⟨_, _, ok_wins F_wins TG o_len o_tuple cK, me_wins, b_wins⟩
  have cKinds : MCal l.prog w K mg base C_G "kinds" 6 ["self", "side", "numbers"] (spKinds l.prog w C_G) := ⟨_, _, ok_kinds F_kinds TG o_len o_tuple o_range cK, me_kinds, b_kinds⟩
  have cReply : MCal l.prog w K mg base C_G "reply" 7 ["self", "side", "place"] (spReply C_G) := ⟨_, _, ok_reply F_reply TG o_enumerate cCh cKinds, me_reply, b_reply⟩
  have cAttack : MCal l.prog w K mg base C_G "attack" 7 ["self"] (spAttack C_G) := ⟨_, _, ok_attack F_attack TG o_len o_enumerate cKinds, me_attack, b_attack⟩
  have cLP : Cal l.prog w K mg base "_law_plain" 1 ["word", "places"] (spLPlain K) := ⟨_, _, ok_lplain F_lplain o_tuple o_int o_max, m_lplain, F_lplain.kp, b_lplain⟩
  have cFit : Cal l.prog w K mg base "_law_fit" 2 ["words", "pairs"] (spFit K) := ⟨_, _, ok_fit F_fit cLP, m_fit, F_fit.kp, b_fit⟩
  have cPlace : Cal l.prog w K mg base "_law_place" 1 ["place", "word"] (spLPlace) := ⟨_, _, ok_lplace F_lplace TS, m_lplace, F_lplace.kp, b_lplace⟩
  have cAimed : Cal l.prog w K mg base "_law_aimed" 2 ["told", "words"] (spAimed K) := ⟨_, _, ok_aimed F_aimed TS cPlace, m_aimed, F_aimed.kp, b_aimed⟩
  have cPair : Cal l.prog w K mg base "_law_pair" 1 ["side", "place", "answer"] (spPair) := ⟨_, _, ok_pair F_pair, m_pair, F_pair.kp, b_pair⟩
  have g : GameC l.prog w K mg base C_G := ⟨TG, TS, cWins, cAttack, cReply, cPlay, cBack, cS4, cFit, cPlace, cAimed, cPair⟩
  have cDef : Cal l.prog w K mg base "_law_defended" 11 ["game", "words", "left", "pairs"] (spAll K C_G (fun x => x)) := ⟨_, _, ok_all (strats m_defended F_defended.kp b_defended fun k c => ok_defended F_defended g c), m_defended, F_defended.kp, b_defended⟩
  have cAtt : Cal l.prog w K mg base "_law_attacked" 11 ["game", "words", "left", "pairs"] (spAll K C_G Not) := ⟨_, _, ok_all (strats m_attacked F_attacked.kp b_attacked fun k c => ok_attacked F_attacked g c), m_attacked, F_attacked.kp, b_attacked⟩
  have cLine : Cal l.prog w K mg base "_law_line" 8 ["state", "game", "words", "rounds", "wins"] (spLine K C_G) := ⟨_, _, ok_line F_line g cDraw, m_line, F_line.kp, b_line⟩
  have cNew : Cal l.prog w K mg base "_law_new" 1 ["script"] (spNew K) := ⟨_, _, ok_new F_new o_list, m_new, F_new.kp, b_new⟩
  have cLet : Cal l.prog w K mg base "_law_letters" 2 ["state", "most"] (spLetters K) := ⟨_, _, ok_letters F_letters o_range cDraw, m_letters, F_letters.kp, b_letters⟩
  have cDrawn : Cal l.prog w K mg base "_law_words_drawn" 3 ["state", "letters"] (spWords_drawn K) := ⟨_, _, ok_words_drawn F_drawn o_len cDraw cWord, m_drawn, F_drawn.kp, b_drawn⟩
  exact ok_law F_law ⟨g, cNew, cLet, cDraw, cDrawn, cDef, cAtt, cLine, cLen⟩ M_G GI b_init
theorem walk {l : PySem.W.OpenLaw} {q : Program} {loose : List Str} {XP : (Str → Option Value) → Heap → Prop} {YP : World → Heap → Prop} {d : DefRec} {K : Params → PySem.W.Frag} (hn : l.most = some 63) (hdf : d.params.defaults = [])
    (hY : ∀ (w : World) (h : Heap), YP w h → (K w.params).In h)
    (F : ∀ (w : World) (mg : Str → Option Value) (fa : Addr) (h : Heap), (K w.params).In h → h.Ns mainGlobals mg → mg d.name = some (.ref fa) →
      ∃ fd : FuncData, (∀ (s : Shared) (u : Value), BindsTo s fd ⟨[u], []⟩ [("script", u)]) ∧ ∀ base : Heap, (K w.params).In base → base.Ns mainGlobals mg → FnOk l.prog w (K w.params) mg base CX0 12 fa fd ["script"] (spLaw (K w.params))) :
    PySem.W.WalkO q loose XP YP l.row.toRowW d [] (fun f vs => PySem.call f vs) :=
  L2.walk_ofB (n := 63) (k := 12) (x := "script") (CX := fun _ => CX0) (sp := fun w => spLaw (K w.params)) hn (by decide) hdf ⟨rfl, by decide, by decide⟩ hY F (fun _ _ a ns hl hb _ hS => ⟨a, ns, rfl, hS, hl, hb, fun _ => rfl⟩) fun _ _ _ _ _ z => z
end W8
open PySem PySem.W PyProof.Rows
set_option maxRecDepth 100000 in
set_option maxHeartbeats 0 in
theorem PySem.Challenge.cw_turtlestold_k83_whole_strategies_holds : PySem.Challenge.rw_turtlestold_k83_whole_strategies.Holds := by
  w_on; o_law; k_head; (case hw => w_witness2)
  k_fill
  refine W8.walk (l := PySem.Challenge.rw_turtlestold_k83_whole_strategies) rfl rfl (fun w h Y => PySem.W.kIn_of Y) ?F
  case F =>
    intro w mg fa h KX G hmg
    refine' W8.all_mk KX G hmg ?aC_G ?a_letter_at ?l_letter_at ?c_letter_at ?k_letter_at ?a_plain ?l_plain ?c_plain ?k_plain ?a_kind ?l_kind ?c_kind ?k_kind ?a_checkL ?l_checkL ?c_checkL ?k_checkL ?a_checkW ?l_checkW ?c_checkW ?k_checkW ?a_checkP ?l_checkP ?c_checkP ?k_checkP ?a_init ?i_init ?l_init ?c_init ?k_init ?a_len ?i_len ?l_len ?c_len ?k_len ?a_choice ?i_choice ?l_choice ?c_choice ?k_choice ?a_play ?i_play ?l_play ?c_play ?k_play ?a_back ?i_back ?l_back ?c_back ?k_back ?a_wins ?i_wins ?l_wins ?c_wins ?k_wins ?a_kinds ?i_kinds ?l_kinds ?c_kinds ?k_kinds ?a_reply ?i_reply ?l_reply ?c_reply ?k_reply ?a_attack ?i_attack ?l_attack ?c_attack ?k_attack ?a_new ?l_new ?c_new ?k_new ?a_draw ?l_draw ?c_draw ?k_draw ?a_same ?l_same ?c_same ?k_same ?a_letters ?l_letters ?c_letters ?k_letters ?a_word ?l_word ?c_word ?k_word ?a_lplain ?l_lplain ?c_lplain ?k_lplain ?a_fit ?l_fit ?c_fit ?k_fit ?a_lplace ?l_lplace ?c_lplace ?k_lplace ?a_aimed ?l_aimed ?c_aimed ?k_aimed ?a_pair ?l_pair ?c_pair ?k_pair ?a_defended ?l_defended ?c_defended ?k_defended ?a_attacked ?l_attacked ?c_attacked ?k_attacked ?a_line ?l_line ?c_line ?k_line ?a_drawn ?l_drawn ?c_drawn ?k_drawn ?a_law ?l_law ?c_law ?k_law ?pg_G ?hd_G ?po_G ?sa_G ?mk_G ?kc_G ?n_G_letters ?n_G_words ?n_G_rounds ?n_G_pairs ?g_ML ?g_SM ?co_G_MOST_ROUNDS ?cg_G_MOST_ROUNDS ?z_len ?z_int ?z_range ?z_tuple ?z_set ?z_sorted ?z_enumerate ?z_max ?z_list ?z_isinstance ?z_bool ?z_str
    (case aC_G => k_is)
    (case a_letter_at => k_is)
    (case l_letter_at => k_is)
    (case c_letter_at => k_is)
    (case k_letter_at => k_is)
    (case a_plain => k_is)
    (case l_plain => k_is)
    (case c_plain => k_is)
    (case k_plain => k_is)
    (case a_kind => k_is)
    (case l_kind => k_is)
    (case c_kind => k_is)
    (case k_kind => k_is)
    (case a_checkL => k_is)
    (case l_checkL => k_is)
    (case c_checkL => k_is)
    (case k_checkL => k_is)
    (case a_checkW => k_is)
    (case l_checkW => k_is)
    (case c_checkW => k_is)
    (case k_checkW => k_is)
    (case a_checkP => k_is)
    (case l_checkP => k_is)
    (case c_checkP => k_is)
    (case k_checkP => k_is)
    (case a_init => k_is)
    (case i_init => k_is)
    (case l_init => k_is)
    (case c_init => k_is)
    (case k_init => k_is)
    (case a_len => k_is)
    (case i_len => k_is)
    (case l_len => k_is)
    (case c_len => k_is)
    (case k_len => k_is)
    (case a_choice => k_is)
    (case i_choice => k_is)
    (case l_choice => k_is)
    (case c_choice => k_is)
    (case k_choice => k_is)
    (case a_play => k_is)
    (case i_play => k_is)
    (case l_play => k_is)
    (case c_play => k_is)
    (case k_play => k_is)
    (case a_back => k_is)
    (case i_back => k_is)
    (case l_back => k_is)
    (case c_back => k_is)
    (case k_back => k_is)
    (case a_wins => k_is)
    (case i_wins => k_is)
    (case l_wins => k_is)
    (case c_wins => k_is)
    (case k_wins => k_is)
    (case a_kinds => k_is)
    (case i_kinds => k_is)
    (case l_kinds => k_is)
    (case c_kinds => k_is)
    (case k_kinds => k_is)
    (case a_reply => k_is)
    (case i_reply => k_is)
    (case l_reply => k_is)
    (case c_reply => k_is)
    (case k_reply => k_is)
    (case a_attack => k_is)
    (case i_attack => k_is)
    (case l_attack => k_is)
    (case c_attack => k_is)
    (case k_attack => k_is)
    (case a_new => k_is)
    (case l_new => k_is)
    (case c_new => k_is)
    (case k_new => k_is)
    (case a_draw => k_is)
    (case l_draw => k_is)
    (case c_draw => k_is)
    (case k_draw => k_is)
    (case a_same => k_is)
    (case l_same => k_is)
    (case c_same => k_is)
    (case k_same => k_is)
    (case a_letters => k_is)
    (case l_letters => k_is)
    (case c_letters => k_is)
    (case k_letters => k_is)
    (case a_word => k_is)
    (case l_word => k_is)
    (case c_word => k_is)
    (case k_word => k_is)
    (case a_lplain => k_is)
    (case l_lplain => k_is)
    (case c_lplain => k_is)
    (case k_lplain => k_is)
    (case a_fit => k_is)
    (case l_fit => k_is)
    (case c_fit => k_is)
    (case k_fit => k_is)
    (case a_lplace => k_is)
    (case l_lplace => k_is)
    (case c_lplace => k_is)
    (case k_lplace => k_is)
    (case a_aimed => k_is)
    (case l_aimed => k_is)
    (case c_aimed => k_is)
    (case k_aimed => k_is)
    (case a_pair => k_is)
    (case l_pair => k_is)
    (case c_pair => k_is)
    (case k_pair => k_is)
    (case a_defended => k_is)
    (case l_defended => k_is)
    (case c_defended => k_is)
    (case k_defended => k_is)
    (case a_attacked => k_is)
    (case l_attacked => k_is)
    (case c_attacked => k_is)
    (case k_attacked => k_is)
    (case a_line => k_is)
    (case l_line => k_is)
    (case c_line => k_is)
    (case k_line => k_is)
    (case a_drawn => k_is)
    (case l_drawn => k_is)
    (case c_drawn => k_is)
    (case k_drawn => k_is)
    (case a_law => k_is)
    (case l_law => k_is)
    (case c_law => k_is)
    (case k_law => k_is)
    (case pg_G => k_is)
    (case hd_G => k_is)
    (case po_G => k_is)
    (case sa_G => k_is)
    (case mk_G => k_is)
    (case kc_G => k_is)
    (case n_G_letters => k_is)
    (case n_G_words => k_is)
    (case n_G_rounds => k_is)
    (case n_G_pairs => k_is)
    (case g_ML => k_is)
    (case g_SM => k_is)
    (case co_G_MOST_ROUNDS => k_is)
    (case cg_G_MOST_ROUNDS => k_is)
    (case z_len => k_is)
    (case z_int => k_is)
    (case z_range => k_is)
    (case z_tuple => k_is)
    (case z_set => k_is)
    (case z_sorted => k_is)
    (case z_enumerate => k_is)
    (case z_max => k_is)
    (case z_list => k_is)
    (case z_isinstance => k_is)
    (case z_bool => k_is)
    (case z_str => k_is)

