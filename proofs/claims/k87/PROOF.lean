import PyProof.Rows.All
import Wide.All
import OpenK.AllK
import Wide.FinOn
import PyProof.Draws
import PyProof.Rows.StrMul
import HandS.ForMost
import HandS.Strs
import HandS.SetFor
import HandS.EndBits
import HandS.TupLen
import HandS.Codes
import HandS.TupAny
import HandS.Walk
import PySem.Challenge.RW_turtlestold_k87_whole_steps_taken_back
import HandS.IsInst
import KE.KExcSuper
import HandS.ExcCtx
import HandS.ExcField
import HandS.TryMany
import HandS.HotCalls
import HandS.ExcIs
import HandS.Comp
import KE.KOpsOwn
import KE.KOwnIter
import HandS.ExcOwn
import HandS.IterVal
import HandS.Star
import HandS.MethStar
import HandS.CallSlots
import HandS.Conv
import PyProof.ListStr
import HandS.OwnEq
import HandS.DictSub
import HandS.OwnIter
import PyProof.CollectWalk
import HandS.WordsDict
import HandS.Property
import HandS.Defaults
import HandS.FStr
import KE.GoesMore
import Wide.Once
import KE.KSuper
import KE.RegKSuper
import HandS.Exc
import HandS.Words
import HandS.HeadEnd
import HandS.HeadHook1
import HandS.HeadHook2
import HandS.HeadHook3
import HandS.Head0
import HandS.Head1
import HandS.Head2
set_option Elab.async false
set_option linter.all false
set_option maxRecDepth 100000
set_option maxHeartbeats 4000000
/-! Further rules: set(list of ints), a text again and again, enumerate(text), products of great ints. -/
namespace L2
open PySem PySem.Spec PyProof.Rows
abbrev so (w : World) : Obj := { cls := .type "set", dict := none, data := .set #[] 0 (.fresh 0 0 (!w.params.followText "set-order")) }
section
variable {P : Program} {w : World} {A : Around} {E : Value → Shared → Prop} {s : Shared}
set_option maxHeartbeats 8000000 in
theorem call_set_lstI {l : Addr} {items : Array Value} (ns : List Int) {Q : Value → Shared → Prop} (hh : A.handled = none) (hl : s.heap.IsList l items) (hit : IntsAre items.toList ns) (hb : ns.length + 1 < scanBound)
    (h : ∀ (h' : Heap) (tk c : Nat), SetR w h' s.heap.objs.size (fun j => decide (j ∈ ns)) c → c ≤ ns.length → (∀ b o, s.heap.get? b = some o → h'.get? b = some o) → Q (.ref s.heap.objs.size) { s with heap := h', toks := tk }) :
    wpAny (model P w) A (call (.type "set") [.ref l]) Q E s := by
  have hisz : items.size = ns.length := by
    have q := IntsAre.length hit
    rw [Array.length_toList] at q
    exact q
  obtain ⟨c, tl, hmro⟩ := F.called_set.mro
  have hmade := F.called_set.made
  have hsub := F.called_set.sub
  refine wpAny_call (codeAny_of_tree ?_)
  show wpAny _ _ (callAny (.type "set") _) _ _ _
  refine wpAny_pure ⟨Code.quiet_builtin _ (by decide +kernel), codeAny_builtin F.entry_type_call ?_⟩
  rw [Around.under_plain (weight_type_call_type "set" [.ref l] []) rfl]
  have h1 := F.called_set.notType
  have h2 := F.called_set.canCreate
  have hct := F.typeCall_set_1 (.ref l)
  repeat (any_goals (first | assumption | wp_step))

  refine codeAny_mono (code_set_led1 (.ref l) (E := E) (Q₁ := fun obj s₁ => obj = .ref s.heap.objs.size ∧ s₁ = { s with heap := s.heap.push (so w) }) ⟨rfl, rfl⟩) fun r s₁ hr => ?_
  cases r with
  | error e => exact hr
  | ok fl =>
    cases fl with
    | ret obj =>
      obtain ⟨rfl, rfl⟩ := hr
      have hS : (s.heap.push (so w)).get? s.heap.objs.size = some (so w) := Heap.get?_push_size _ rfl
      have hT : Shared.TypeIs { s with heap := s.heap.push (so w) } (.ref s.heap.objs.size) "set" := ⟨_, hS, rfl⟩
      have hli := F.called_set.init.lookup
      have hbi := F.called_set.init.bind (.ref s.heap.objs.size)
      repeat (any_goals (first | assumption | wp_step))

      refine codeAny_mono (codeAny_call_builtin (R := wants (fun r s₂ => r = .none ∧ ∃ h' tk c, s₂ = { s with heap := h', toks := tk } ∧ SetR w h' s.heap.objs.size (fun j => decide (j ∈ ns)) c ∧ c ≤ ns.length ∧
          (∀ b o, s.heap.get? b = some o → h'.get? b = some o)) E) F.called_set.init.plain F.entry_set_init (check_set_init_1 hT ?_)) fun r₂ s₂ hr₂ => ?_
      · obtain ⟨ol, hol, hcl, nl, hdl⟩ := hl
        obtain ⟨ocls, odict, odata, oslots⟩ := ol
        simp only at hcl hdl
        subst hcl; subst hdl
        have hol' : (s.heap.push (so w)).get? l = some { cls := .type "list", dict := odict, data := .seq items nl, slots := oslots } := Heap.get?_push_of_some _ hol
        have hsls := F.sub_list_set
        have hslf := F.sub_list_frozenset
        have hne : (Value.type "list" == Value.type "dict") = false := by decide
        have hl1 : (s.heap.push (so w)).IsList l items := ⟨_, hol', rfl, nl, rfl⟩
        unfold Builtin.«set.__init__» noKeywords Builtin.Frozenset.updateFrom
        generalize hPI : pyIter = PI
        wp_walk
        subst hPI

        refine wpAny_pyIter_list hl1 ?_
        refine wpAny_bind (wpAny_runValue ?_)
        have hlS : l < s.heap.objs.size := Heap.lt_size hol
        have hh3 : A.in1.in1.in1.handled = none := by simp [hh]
        have hz1 : (s.heap.push (so w)).objs.size = s.heap.objs.size + 1 := Heap.size_push ..
        have hneI : l ≠ (s.heap.push (so w)).objs.size := by
          rw [Heap.size_push]; exact Nat.ne_of_lt (Nat.lt_succ_of_lt hlS)
        have hSf : s.heap.objs.size ∉ [(s.heap.push (so w)).objs.size, l] := by
          rw [Heap.size_push]; simp only [List.mem_cons, List.mem_singleton, List.not_mem_nil, or_false, not_or]
          exact ⟨Nat.ne_of_lt (Nat.lt_succ_self _), Nat.ne_of_gt hlS⟩
        have hval : ∀ (i : Nat) (v : Value), items[i]? = some v → ∃ k t, ns[i]? = some k ∧ v = .int k t := fun i v hv => by
          have hi : i < ns.length := by rw [← hisz]; exact (Array.getElem?_eq_some_iff.mp hv).1
          obtain ⟨t, e⟩ := PyProof.Rows.IntsAre.int_at hit i v (by rw [Array.getElem?_toList]; exact hv)
          refine ⟨ns[i], t, List.getElem?_eq_getElem hi, ?_⟩
          rw [e, List.getD_eq_getElem?_getD, List.getElem?_eq_getElem hi] <;> rfl
        refine set_update_ints ((Walks.list hh3 _ l hneI items).toS) s.heap.objs.size
          hSf ns hisz hb hval (items.size - 0) 0 _ (by omega) (Nat.zero_le _)
          ⟨⟨_, Heap.get?_push_size _ rfl, rfl, rfl⟩, (hl1.push _)⟩ ?hS0 ?hR
        case hS0 =>
          have hget : ((s.heap.push (so w)).push { cls := .type "list_iterator", data := .fields #[.ref l, .int 0 0] }).get? s.heap.objs.size
              = some (so w) := Heap.get?_push_of_some _ hS
          exact ⟨0, Nat.le_refl 0, setR_new_at hget⟩
        case hR =>
          intro s' c' hm hc' hS'
          obtain ⟨h', g2, d', tk', os'⟩ := s'
          have eg : g2 = s.gens := hm.gens
          have ed : d' = s.drawn := hm.drawn
          have eo : os' = s.os := hm.os
          subst eg; subst ed; subst eo
          show wpAny _ _ _ _ _ _
          refine wpAny_pure ?_
          show wpAny _ _ (ret Value.none) _ _ _
          rw [hisz] at hc'
          refine wpAny_pure ⟨rfl, h', tk', c', rfl, hS', hc', fun b o e => ?_⟩
          have hb0 : b < s.heap.objs.size := Heap.lt_size e
          have hb1 : b ≠ s.heap.objs.size := Nat.ne_of_lt hb0
          have hb2 : b ≠ (s.heap.push (so w)).objs.size := by
            rw [Heap.size_push]; exact Nat.ne_of_lt (Nat.lt_succ_of_lt hb0)
          exact hm.heap b o (by simp only [List.mem_cons, List.mem_singleton, List.not_mem_nil, or_false, not_or]; exact ⟨hb1, hb2⟩) (Heap.get?_push_of_some _ (Heap.get?_push_of_some _ e))

      · cases r₂ with
        | error e => exact hr₂
        | ok fl₂ =>
          cases fl₂ with
          | ret r =>
            obtain ⟨rfl, h', tk, c', rfl, hS', hc', hk'⟩ := hr₂
            repeat (any_goals (first | assumption | wp_step))
            exact h _ _ _ hS' hc' hk'
          | _ => exact hr₂.elim
    | _ => exact hr.elim

end
section
variable {X : Cx}
/-- set(xs) of a list of ints -/
def rSetLI (K : PySem.W.Frag) (w : World) : List V → Hp → VK → Prop := fun xs H Q => ∃ (l : Addr) (ns : List Int), xs = [V.ref l] ∧ SqL K H l (ns.map V.int) ∧ ns.length ≤ 1000 ∧
  ∀ (a : Addr) (c : Nat), H a = none → c ≤ ns.length → Q (.ref a) (upd H a (SetO w a (fun j => decide (j ∈ ns)) c))
theorem cr_setL (hc : X.calm = true) : CallR X (.type "set") (rSetLI X.K X.w) := by
  intro pins s σ H xs us Q I r h
  obtain ⟨l, ns, rfl, hl, h1, q⟩ := h
  rw [Vals.ref1 r]
  obtain ⟨its, rv, p, hz⟩ := I.list hl
  refine call_set_lstI ns (I.ok.hd hc) (show s.heap.IsList l its.toArray from p.isList) (intsAre_of rv) (by unfold scanBound; omega) fun h' tk c R hcn k => ?_
  exact ⟨.ref _, upd H s.heap.objs.size (SetO X.w s.heap.objs.size (fun j => decide (j ∈ ns)) c), I.laid (t' := tk) k (Nat.le_refl _) (setO_new R), rfl, q _ c (I.hok.fresh (Nat.le_refl _)) hcn⟩
/-- a text so many times -/
def rMulS : R2 := fun x y H Q => ∃ (z : Str) (k : Int), x = .str z ∧ y = .int k ∧ z.length ≤ 1000 ∧ 0 ≤ k ∧ k ≤ 1000 ∧ Q (.str (Txt.mul z k)) H
theorem op_mulS : OpR X (binaryOp .Mult) rMulS := by
  intro pins s σ H x y v u Q I rx ry h
  obtain ⟨z, k, rfl, rfl, h1, h2, h3, q⟩ := h
  obtain ⟨t, rfl⟩ := rx
  obtain ⟨t2, rfl⟩ := ry
  exact SB.mul (mulOk_of 1000 1000 h1 (by omega) (by omega) (by decide) (by decide)) fun t' n => ⟨.str (Txt.mul z k), H, I.tok _, ⟨t', rfl⟩, q⟩
/-- a product whose factors are told by their bits -/
def CMulB (i j : Int) : Prop := Builtin.Int.intBits i ≤ 2097152 ∧ Builtin.Int.intBits j ≤ 64
theorem op_mulB : OpR X (binaryOp .Mult) (rI CMulB fun i j => .int (i * j)) := opI fun i j _ _ _ _ _ hc q => mul_int q (by
  obtain ⟨h1, h2⟩ := (show CMulB i j from hc)
  have e : bitsLine = 134217728 := by decide
  unfold IntMulOk
  intro z
  rw [Bool.and_eq_true] at z
  have z2 := z.2
  unfold Builtin.Int.intTooBig at z2
  have z3 := of_decide_eq_true z2
  rw [e] at z3
  omega)
end
/-! ### enumerate(text) -/
def Ites (x : Str) : It :=
  ⟨fun i _ => i < x.cps.size, fun i H v H' => ∃ T c, v = .ref T ∧ H T = none ∧ H' = upd H T (.tup [.int (i : Nat), .str ⟨#[c]⟩]) ∧ x.cps[i]? = some c, fun i _ => x.cps.size ≤ i⟩
theorem turn_enumS {P : Program} {w : World} {K : PySem.W.Frag} {elts : List Expr} {kk : Nat} {tpos : Pos} (x : Str) (t : Tok) (e it : Addr) (hne : e ≠ it) :
    Turn P w K (.Tuple elts kk tpos) (Ites x) [e, it] e (fun i h => (∃ old, IsEnum h e it ((i : Nat) : Int) old) ∧ i ≤ x.cps.size ∧ h.IsStrIter it (strIterType x) x t i) where
  mem := by simp
  obj := fun i h st b hb => by
    obtain ⟨⟨old, he⟩, _, ⟨o, ho, hc, hd⟩⟩ := st
    have e' : b = e ∨ b = it := by simpa using hb
    rcases e' with z | z
    · rw [z]; exact ⟨_, he, fun v q => nomatch q⟩
    · rw [z]; exact ⟨o, ho, fun v q => by rw [hd] at q; cases q⟩
  keep := fun i h h' st k => let ⟨⟨old, he⟩, hi, ⟨o, ho, r⟩⟩ := st; ⟨⟨old, k e (by simp) _ he⟩, hi, ⟨o, k it (by simp) _ ho, r⟩⟩
  item := by
    intro X hP hw hK hc i pins s σ H E I hf st hg
    subst hP hw hK
    obtain ⟨⟨old, he⟩, hi, hit⟩ := st
    have hel : e < s.heap.objs.size := Heap.lt_size he
    have hil : it < s.heap.objs.size := by obtain ⟨_, q, _⟩ := hit; exact Heap.lt_size q
    have hh : X.A.in1.handled = none := by have q := I.ok.hd hc; simpa using q
    have D : Draws X.prog X.w X.A.in1 it [it] x.cps.size (SignAt x) (fun i h => h.IsStrIter it (strIterType x) x t i) := by
      unfold strIterType
      cases x.cps.all (· < 128)
      · exact Draws.strWide hh it x t
      · exact Draws.strAscii hh it x t
    refine wpAny_pyNext_enum_itemD D he hit hg hne (by simpa using hne) fun u h' tk hu ho hit' hT hsz hk => ?_
    obtain ⟨c, u2, hcx, rfl⟩ := hu
    refine ⟨_, rfl, wpAny_letOwnedTupleGo_enum (s := { s with heap := h', toks := tk + 1 }) ho fun h'' he' sb => ?_⟩
    have hT2 := (sb.2 _ (Nat.ne_of_gt hel)).trans hT
    have new : ObjOk X.prog X.w (upd H s.heap.objs.size (.tup [.int (i : Nat), .str ⟨#[c]⟩])) h'' s.heap.objs.size (.tup [.int (i : Nat), .str ⟨#[c]⟩]) :=
      ⟨by show 2 ≤ sizeLine; decide, [.int i tk, .str ⟨#[c]⟩ u2], .cons ⟨_, rfl⟩ (.cons ⟨_, rfl⟩ .nil), ⟨_, hT2, rfl, _, rfl⟩⟩
    have I1 : Inv X pins σ (upd H s.heap.objs.size (.tup [.int (i : Nat), .str ⟨#[c]⟩])) { s with heap := h'', toks := tk + 1 } :=
      I.turnedNew (ch := [e, it]) (fun b ob hb q => (sb.2 b (fun z => hb (by simp [z]))).trans (hk b ob (fun z => hb (by simp [z])) (fun z => hb (by simp [z])) q)) hf (Nat.le_refl _) new
    refine ⟨.ref s.heap.objs.size, _, I1, rfl, ⟨_, c, rfl, I.hok.fresh (Nat.le_refl _), rfl, hcx⟩, ⟨⟨.str ⟨#[c]⟩ u2, ?_⟩, hg, ?_⟩, fun b hb => ?_⟩
    · have e1 : ((i + 1 : Nat) : Int) = (i : Int) + 1 := by omega
      rw [e1]; exact he'
    · obtain ⟨o, ho2, r⟩ := hit'
      exact ⟨o, (sb.2 it (Ne.symm hne)).trans ho2, r⟩
    · have hb' : b < s.heap.objs.size := by
        have e' : b = e ∨ b = it := by simpa using hb
        rcases e' with z | z
        · rw [z]; exact hel
        · rw [z]; exact hil
      rw [upd_ne (Nat.ne_of_lt hb')]
      exact (hf b hb).1
  done := by
    intro X hP hw hK hc i pins s σ H E I hf st hg
    subst hP hw hK
    obtain ⟨⟨old, he⟩, hi, hit⟩ := st
    have hh : X.A.in1.handled = none := by have q := I.ok.hd hc; simpa using q
    have D : Draws X.prog X.w X.A.in1 it [it] x.cps.size (SignAt x) (fun i h => h.IsStrIter it (strIterType x) x t i) := by
      unfold strIterType
      cases x.cps.all (· < 128)
      · exact Draws.strWide hh it x t
      · exact Draws.strAscii hh it x t
    obtain ⟨f0, f1, f2, f3, f4, f5⟩ := hf it (by simp)
    have ei : i = x.cps.size := Nat.le_antisymm hi hg
    subst ei
    exact wpAny_pyNext_enum_endD D he hit fun h' eb => ⟨rfl, I.turned (t' := s.toks) (fun b o hb q => eb b o hb q) f0 f1 f3 f4 f5⟩
  self := fun A i s Q E st h => let ⟨⟨_, he⟩, _⟩ := st; wpAny_pyIter_enum he h
def iEnumS (ta : TA) : TI := fun σ H R => ta σ H fun vs H1 => ∃ x, vs = [.str x] ∧ R (Ites x) H1
theorem pi_enumS {X : Cx} {e : Expr} {ta : TA} {p pos tpos : Pos} {elts : List Expr} {kk : Nat} (hg : Gl X "enumerate") (hm : X.mg "enumerate" = none) (ha : PA X [e] ta) (hs : starEach [e] X.env = [(false, eval e X.env)] := by rfl) :
    PI X (.Tuple elts kk tpos) (.Call (.Name "enumerate" p) [e] [] pos) (iEnumS ta) := by
  refine ⟨fun pins s σ H R I h => ?_⟩
  refine Call_ (ld_blt I hg hm boot_enumerate (PyProof.Rows.callWith_type1 (thn (ha.run pos pins s σ H _ I h) fun us s1 ⟨vs, H1, I1, r1, q1⟩ => ?_) hs rfl))
  obtain ⟨x, ex, q⟩ := q1
  subst ex
  cases r1 with
  | cons r rr =>
    cases rr
    obtain ⟨t, rfl⟩ := r
    refine call_enumerate_str fun h' he hit hsz hk => wpAny_pyIter_enum he ?_
    have I2 : Inv X pins σ H1 { s1 with heap := h' } := I1.kept (t' := s1.toks) hk
    refine ⟨s1.heap.objs.size + 1, [s1.heap.objs.size + 1, s1.heap.objs.size], _, _, H1, rfl, I2, turn_enumS x t (s1.heap.objs.size + 1) s1.heap.objs.size (Nat.succ_ne_self _), ⟨⟨.none, he⟩, Nat.zero_le _, hit⟩, fun b hb => ?_, q⟩
    have e' : b = s1.heap.objs.size + 1 ∨ b = s1.heap.objs.size := by simpa using hb
    have hle : s1.heap.objs.size ≤ b := by
      rcases e' with z | z
      · rw [z]; exact Nat.le_add_right _ _
      · rw [z]; exact Nat.le_refl _
    exact I1.fpOk hle (I1.hok.fresh hle)
end L2

set_option Elab.async false
set_option linter.all false
set_option maxRecDepth 100000
set_option maxHeartbeats 4000000
/-! Dicts whose keys are tuples of ints, texts, and tuples of ints and texts. -/
namespace NK
open PySem PySem.Spec PyProof.Rows L2

abbrev Itm := Sum Key (List Key)
section
variable (P : Program) (w : World)
def itmIs (h : Heap) : Itm → Value → Prop
  | .inl k, v => keyIs k v = true
  | .inr ks, v => ∃ a, v = .ref a ∧ IsTupleKey (mixKind P w) h ks a
def IsN (h : Heap) (ks : List Itm) (a : Addr) : Prop := ∃ o items n, h.get? a = some o ∧ o.cls = .type "tuple" ∧ o.data = .seq items n ∧ Paired (itmIs P w h) ks items.toList
def itmH : Itm → Int
  | .inl k => keyH w k
  | .inr ks => tupleKeyHash (mixKind P w) ks
def itmD : Itm → Nat
  | .inl _ => 1
  | .inr ks => ks.length + 1
def nkD : List Itm → Nat
  | [] => 1
  | i :: r => itmD i + nkD r
def nkH (ks : List Itm) : Int := reduceHash (Builtin.Tuple.tupleHashOf (ks.map (itmH P w)))
end

section
variable {P : Program} {w : World} {h : Heap}
theorem itm_inj {x y : Itm} {v : Value} (hx : itmIs P w h x v) (hy : itmIs P w h y v) : x = y := by
  cases x with
  | inl k =>
    cases y with
    | inl j => rw [(mixKind P w).inj v k j hx hy]
    | inr js =>
      obtain ⟨a, rfl, _⟩ := hy
      rcases keyIs_shape hx with ⟨i, t, _, e⟩ | ⟨z, t, _, e⟩ <;> cases e
  | inr ks =>
    obtain ⟨a, rfl, ha⟩ := hx
    cases y with
    | inl j => rcases keyIs_shape hy with ⟨i, t, _, e⟩ | ⟨z, t, _, e⟩ <;> cases e
    | inr js =>
      obtain ⟨b, e, hb⟩ := hy
      cases e
      rw [ha.inj hb]
theorem itms_inj {vs : List Value} : ∀ {x y : List Itm}, Paired (itmIs P w h) x vs → Paired (itmIs P w h) y vs → x = y := by
  induction vs with
  | nil => intro x y hx hy; cases hx; cases hy; rfl
  | cons v vs ih =>
    intro x y hx hy
    cases hx with
    | cons h1 t1 =>
      cases hy with
      | cons h2 t2 => rw [itm_inj h1 h2, ih t1 t2]
theorem IsN.inj {x y : List Itm} {a : Addr} (hx : IsN P w h x a) (hy : IsN P w h y a) : x = y := by
  obtain ⟨o, items, n, ho, _, hd, hi⟩ := hx
  obtain ⟨o', items', n', ho', _, hd', hi'⟩ := hy
  obtain rfl : o = o' := Option.some.inj (ho.symm.trans ho')
  rw [hd] at hd'
  injection hd' with h1 _
  subst h1
  exact itms_inj hi hi'
theorem IsN.typeIs {s : Shared} {ks : List Itm} {a : Addr} (x : IsN P w s.heap ks a) : s.TypeIs (.ref a) "tuple" := let ⟨o, _, _, ho, hc, _⟩ := x; ⟨o, ho, hc⟩
theorem itm_keeps {h' : Heap} {d : Addr} {o : Obj} {es ep} (ho : h.get? d = some o) (hd : o.data = .dict es ep) (hs : Heap.SameBut d h h') : ∀ {k : Itm} {v : Value}, itmIs P w h k v → itmIs P w h' k v
  | .inl _, _, x => x
  | .inr _, _, ⟨a, e, x⟩ => ⟨a, e, x.keeps ho hd hs⟩
theorem IsN.keeps {h' : Heap} {ks : List Itm} {a d : Addr} {o : Obj} {es ep} (x : IsN P w h ks a) (ho : h.get? d = some o) (hd : o.data = .dict es ep) (hs : Heap.SameBut d h h') : IsN P w h' ks a := by
  obtain ⟨o', items, n, ho', hc, hd', hi⟩ := x
  have hne : a ≠ d := by
    rintro rfl
    obtain rfl : o' = o := Option.some.inj (ho'.symm.trans ho)
    rw [hd] at hd'; exact nomatch hd'
  exact ⟨o', items, n, (hs.2 a hne).trans ho', hc, hd', Paired.mapP hi fun _ _ z => itm_keeps ho hd hs z⟩
end

section
variable {P : Program} {w : World} {A : Around} {E : Value → Shared → Prop} {s : Shared}
theorem itm_hash {k : Itm} {v : Value} {Q : Int → Shared → Prop} (hu : A.units + 1 < cLine) (hk : itmIs P w s.heap k v) (h : Q (itmH P w k) { s with toks := s.toks + itmD k }) :
    wpAny (model P w) A (pyHash v) Q E s := by
  cases k with
  | inl k => exact (mixKind P w).pyHash hk h
  | inr ks =>
    obtain ⟨a, rfl, ha⟩ := hk
    exact wpAny_pyHash_tuple (by omega) ha h
theorem isTuple_of {ks : List Key} {a : Addr} (x : IsTupleKey (mixKind P w) s.heap ks a) : ∃ items, s.heap.IsTuple a items := by
  obtain ⟨o, items, n, ho, hc, hd, _⟩ := x
  exact ⟨items, o, ho, hc, n, hd⟩
theorem itm_eq {x y : Itm} {u v : Value} {Q : Bool → Shared → Prop} (hu : A.units + 1 < cLine) (hx : itmIs P w s.heap x u) (hy : itmIs P w s.heap y v) (h : Q (decide (x = y)) s) :
    wpAny (model P w) A (eqBool u v) Q E s := by
  cases x with
  | inl k =>
    cases y with
    | inl j =>
      refine (mixKind P w).eqBool (a := k) (b := j) hx hy ?_
      have e : decide ((Sum.inl k : Itm) = Sum.inl j) = decide (k = j) := by
        by_cases e : k = j
        · subst e; rw [decide_eq_true rfl, decide_eq_true rfl]
        · rw [decide_eq_false e, decide_eq_false (fun z => e (Sum.inl.inj z))]
      rw [← e]; exact h
    | inr js =>
      obtain ⟨a, rfl, ha⟩ := hy
      obtain ⟨items, hi⟩ := isTuple_of ha
      have e : decide ((Sum.inl k : Itm) = Sum.inr js) = false := decide_eq_false (fun q => nomatch q)
      rw [e] at h
      rcases keyIs_shape hx with ⟨i, t, _, rfl⟩ | ⟨z, t, _, rfl⟩
      · exact SeqAt.EqAt.int_tuple i t hi (by omega) P w E Q h
      · exact SeqAt.EqAt.str_tuple z t hi (by omega) P w E Q h
  | inr ks =>
    obtain ⟨a, rfl, ha⟩ := hx
    cases y with
    | inl j =>
      obtain ⟨items, hi⟩ := isTuple_of ha
      have e : decide ((Sum.inr ks : Itm) = Sum.inl j) = false := decide_eq_false (fun q => nomatch q)
      rw [e] at h
      rcases keyIs_shape hy with ⟨i, t, _, rfl⟩ | ⟨z, t, _, rfl⟩
      · exact SeqAt.EqAt.tuple_int i t hi (by omega) P w E Q h
      · exact SeqAt.EqAt.tuple_str z t hi (by omega) P w E Q h
    | inr js =>
      obtain ⟨b, rfl, hb⟩ := hy
      refine wpAny_eqBool_tuple (by omega) ha hb ?_
      have e : decide ((Sum.inr ks : Itm) = Sum.inr js) = decide (ks = js) := by
        by_cases e : ks = js
        · subst e; rw [decide_eq_true rfl, decide_eq_true rfl]
        · rw [decide_eq_false e, decide_eq_false (fun z => e (Sum.inr.inj z))]
      rw [← e]; exact h
theorem itm_quiet {k : Itm} {v : Value} {n : Nat} {Q : Bool → Shared → Prop} (hk : itmIs P w s.heap k v) (h : Q true s) : wpAny (model P w) A (eqIsQuiet (n + 1) v) Q E s := by
  cases k with
  | inl k =>
    rw [eqIsQuiet_byValue _ ((mixKind P w).byValue k v hk)]
    exact wpAny_pure h
  | inr ks =>
    obtain ⟨a, rfl, hk⟩ := hk
    have hT := hk.typeIs
    obtain ⟨o, items, m, ho, _, hd, hi⟩ := hk
    unfold eqIsQuiet
    refine wpAny_bind (wpAny_specialOf hT F.slot_tuple_eq.lookup ?_)
    show wpAny _ _ (isInstance (.ref a) (.type "tuple") >>= _) _ _ s
    refine wpAny_bind (wpAny_isInstance hT isSubtype_tuple_tuple ?_)
    simp only [Bool.not_true, Bool.false_eq_true, if_false]
    refine wpAny_bind (wpAny_seqItems ho hd ?_)
    refine wpAny_bind ?_
    show wpAny _ _ (forIn items _ _) _ _ s
    rw [← Array.forIn_toList]
    refine wpAny_forIn_list _ (fun rest r s' => r.1 = none ∧ s' = s ∧ ∀ v ∈ rest, carriedByValue v = true) _ ?_ ?_ _ _ ⟨rfl, rfl, hi.byValue⟩
    · rintro v rest r s' ⟨hr, rfl, hall⟩
      rw [eqIsQuiet_byValue _ (hall v List.mem_cons_self)]
      refine wpAny_bind (wpAny_pure ?_)
      simp only [Bool.not_true, Bool.false_eq_true, if_false]
      exact wpAny_pure ⟨rfl, rfl, fun u hu' => hall u (List.mem_cons_of_mem _ hu')⟩
    · rintro ⟨r1, r2⟩ s' ⟨hr, rfl, _⟩
      simp only at hr
      subst hr
      exact wpAny_pure h
theorem nk_quiet {ks : List Itm} {a : Addr} {Q : Bool → Shared → Prop} (hk : IsN P w s.heap ks a) (h : Q true s) : wpAny (model P w) A (eqIsQuiet 8 (.ref a)) Q E s := by
  have hT := hk.typeIs
  obtain ⟨o, items, m, ho, _, hd, hi⟩ := hk
  unfold eqIsQuiet
  refine wpAny_bind (wpAny_specialOf hT F.slot_tuple_eq.lookup ?_)
  show wpAny _ _ (isInstance (.ref a) (.type "tuple") >>= _) _ _ s
  refine wpAny_bind (wpAny_isInstance hT isSubtype_tuple_tuple ?_)
  simp only [Bool.not_true, Bool.false_eq_true, if_false]
  refine wpAny_bind (wpAny_seqItems ho hd ?_)
  refine wpAny_bind ?_
  show wpAny _ _ (forIn items _ _) _ _ s
  rw [← Array.forIn_toList]
  refine wpAny_forIn_list _ (fun rest r s' => r.1 = none ∧ s' = s ∧ ∃ left, Paired (itmIs P w s.heap) left rest) _ ?_ ?_ _ _ ⟨rfl, rfl, ks, hi⟩
  · rintro v rest r s' ⟨hr, rfl, left, hl⟩
    cases hl with
    | cons h1 t1 =>
      refine wpAny_bind (itm_quiet h1 ?_)
      simp only [Bool.not_true, Bool.false_eq_true, if_false]
      exact wpAny_pure ⟨rfl, rfl, _, t1⟩
  · rintro ⟨r1, r2⟩ s' ⟨hr, rfl, _⟩
    simp only at hr
    subst hr
    exact wpAny_pure h
theorem nkD_snoc (k : Itm) : ∀ ks : List Itm, nkD (ks ++ [k]) = nkD ks + itmD k
  | [] => by show itmD k + 1 = 1 + itmD k; omega
  | i :: r => by show itmD i + nkD (r ++ [k]) = itmD i + nkD r + itmD k; rw [nkD_snoc k r]; omega
theorem nk_hash {ks : List Itm} {a : Addr} {Q : Int → Shared → Prop} (hu : A.units + 8 < cLine) (hk : IsN P w s.heap ks a) (h : Q (nkH P w ks) { s with toks := s.toks + nkD ks }) :
    wpAny (model P w) A (pyHash (.ref a)) Q E s := by
  have hT := hk.typeIs
  obtain ⟨o, items, n, ho, _, hd, hi⟩ := hk
  unfold pyHash
  first | unfold pyHashByItsType | skip
  first | refine wpAny_bind (wpAny_cRoomFor_or (.inr (by omega)) ?_) | skip
  refine wpAny_bind (wpAny_specialOf hT F.slot_tuple_hash.lookup ?_)
  show wpAny _ _ (if (some (Value.builtin "tuple.__hash__") == some Value.none) = true then _ else _) Q E s
  rw [if_neg (by rw [beq_builtin_none]; exact Bool.false_ne_true)]
  refine wpAny_bind (wpAny_specialOf hT F.slot_tuple_hash.lookup ?_)
  show wpAny _ _ (callSpecialIfBoundUnlessNone? (.ref a) "__hash__" _ >>= _) Q E s
  refine wpAny_bind (wpAny_callSpecialIfBoundUnlessNone?_slot hT F.slot_tuple_hash (wpAny_call_entry F.slot_tuple_hash hT F.entry_tuple_hash ?_ (F.args_tuple_hash_1 _)))
  show wpAny _ _ (Builtin.Tuple.tupleItemsOf (.ref a) >>= _) _ _ s
  refine wpAny_bind (wpAny_tupleItemsOf ho hd ?_)
  refine wpAny_bind ?_
  rw [← Array.forIn_toList]
  refine wpAny_forIn_list _
    (fun rest (b : Array Int) s' => ∃ done left, ks = done ++ left ∧ Paired (itmIs P w s.heap) left rest ∧ b.toList = done.map (itmH P w) ∧ s' = { s with toks := s.toks + (nkD done - 1) })
    _ ?_ ?_ _ _ ⟨[], ks, rfl, hi, rfl, rfl⟩
  · rintro x rest b s' ⟨done, left, rfl, hl, hb, rfl⟩
    cases hl with
    | @cons k _ ks' _ h1 hl' =>
      have e : s.toks + (nkD done - 1) + itmD k = s.toks + (nkD (done ++ [k]) - 1) := by
        rw [nkD_snoc]
        have : 1 ≤ nkD done := by
          cases done with
          | nil => exact Nat.le_refl _
          | cons i r => show 1 ≤ itmD i + nkD r; cases i <;> (dsimp only [itmD]; omega)
        omega
      refine wpAny_bind (itm_hash (k := k) (by show A.units + 1 + 1 < cLine; omega) h1 ?_)
      first
        | exact wpAny_pure ⟨done ++ [k], ks', by simp, hl', by simp [hb], by rw [← e]⟩
        | exact wpAny_bind (wpAny_pure (wpAny_pure ⟨done ++ [k], ks', by simp, hl', by simp [hb], by rw [← e]⟩))
  · rintro b s' ⟨done, left, rfl, hl, hb, rfl⟩
    cases hl
    rw [List.append_nil] at h
    show wpAny _ _ (retInt (Builtin.Tuple.tupleHashOf b.toList)) _ _ _
    rw [hb]
    refine wpAny_ret_mkInt ?_
    have e : s.toks + (nkD done - 1) + 1 = s.toks + nkD done := by
      have : 1 ≤ nkD done := by
        cases done with
        | nil => exact Nat.le_refl _
        | cons i r => show 1 ≤ itmD i + nkD r; cases i <;> (dsimp only [itmD]; omega)
      omega
    show wpAny _ _ (if (decide (-(2 : Int) ^ 63 ≤ Builtin.Tuple.tupleHashOf (done.map (itmH P w))) && decide (Builtin.Tuple.tupleHashOf (done.map (itmH P w)) < 2 ^ 63)) = true then _ else _) Q E _
    unfold nkH reduceHash at h
    by_cases hr : (decide (-(2 : Int) ^ 63 ≤ Builtin.Tuple.tupleHashOf (done.map (itmH P w))) && decide (Builtin.Tuple.tupleHashOf (done.map (itmH P w)) < 2 ^ 63)) = true
    · rw [if_pos hr]
      rw [if_pos hr] at h
      exact wpAny_pure (by rw [← e] at h; exact h)
    · rw [if_neg hr]
      rw [if_neg hr] at h
      exact wpAny_bind (wpAny_rule (wpAny_pure (by rw [← e] at h; exact h)))
theorem nk_eq_tree {x y : List Itm} {a b : Addr} {Pf : Fin → Shared → Prop} (hu : A.units + 1 < cLine) (hx : IsN P w s.heap x a) (hy : IsN P w s.heap y b) (h : Pf (.done (.ret (.bool (decide (x = y))))) s) :
    wpAny (model P w) A (Builtin.«tuple.__eq__» ⟨[.ref a, .ref b], []⟩) Pf E s := by
  have hTb := hy.typeIs
  obtain ⟨oa, xs, na, hoa, _, hda, hia⟩ := hx
  obtain ⟨ob, ys, nb, hob, _, hdb, hib⟩ := hy
  show wpAny _ _ (isInstance (.ref b) (.type "tuple") >>= _) _ _ s
  refine wpAny_bind (wpAny_isInstance hTb isSubtype_tuple_tuple ?_)
  simp only [Bool.not_true, Bool.false_eq_true, if_false]
  refine wpAny_bind (wpAny_tupleItemsOf hoa hda ?_)
  refine wpAny_bind (wpAny_tupleItemsOf hob hdb ?_)
  refine wpAny_bind ?_
  refine wpAny_forIn_list _
    (fun rest r s' => r.1 = none ∧ s' = s ∧ ∃ x' y' xs' ys', rest = List.zip xs' ys' ∧ Paired (itmIs P w s.heap) x' xs' ∧ Paired (itmIs P w s.heap) y' ys' ∧ decide (x' = y') = decide (x = y) ∧ (xs'.length == ys'.length) = (xs.size == ys.size))
    _ ?_ ?_ _ _ ⟨rfl, rfl, x, y, xs.toList, ys.toList, rfl, hia, hib, rfl, by simp⟩
  · rintro ⟨u, v⟩ rest r s' ⟨hr, rfl, x', y', xs', ys', hz, hx', hy', hdec, hlen⟩
    cases hx' with
    | nil => simp at hz
    | @cons k1 u' x'' xs'' h1 hx'' =>
      cases hy' with
      | nil => simp at hz
      | @cons k2 v' y'' ys'' h2 hy'' =>
        simp only [List.zip_cons_cons, List.cons.injEq, Prod.mk.injEq] at hz
        obtain ⟨⟨rfl, rfl⟩, rfl⟩ := hz
        refine wpAny_bind (itm_eq (x := k1) (y := k2) hu h1 h2 ?_)
        by_cases hk : k1 = k2
        · subst hk
          rw [decide_eq_true rfl]
          simp only [Bool.not_true, Bool.false_eq_true, if_false]
          refine wpAny_pure ⟨rfl, rfl, x'', y'', xs'', ys'', rfl, hx'', hy'', ?_, by simpa using hlen⟩
          rw [← hdec]
          by_cases hxy : x'' = y''
          · simp [hxy]
          · simp [hxy]
        · rw [decide_eq_false hk]
          simp only [Bool.not_false, if_true]
          have hf : decide (x = y) = false := by rw [← hdec]; simp [hk]
          rw [hf] at h
          exact wpAny_bind (wpAny_pure (wpAny_pure (wpAny_pure h)))
  · rintro ⟨r1, r2⟩ s' ⟨hr, rfl, x', y', xs', ys', hz, hx', hy', hdec, hlen⟩
    simp only at hr
    subst hr
    refine wpAny_pure ?_
    have hfin : (xs.size == ys.size) = decide (x = y) := by
      rw [← hdec, ← hlen]
      cases hx' with
      | nil =>
        cases hy' with
        | nil => simp
        | cons _ _ => simp
      | cons _ _ =>
        cases hy' with
        | nil => simp
        | cons _ _ => simp at hz
    show Pf (.done (.ret (.bool (xs.size == ys.size)))) s'
    rw [hfin]; exact h
theorem nk_eq {x y : List Itm} {a b : Addr} {Q : Bool → Shared → Prop} (hu : A.units + 8 < cLine) (hx : IsN P w s.heap x a) (hy : IsN P w s.heap y b) (h : Q (decide (x = y)) s) :
    wpAny (model P w) A (eqBool (.ref a) (.ref b)) Q E s := by
  unfold eqBool
  try with_reducible refine wpAny_holding ?_
  show wpAny _ _ (if (Value.ref a == Value.ref b) = true then _ else _) Q E s
  by_cases hab : (Value.ref a == Value.ref b) = true
  · rw [if_pos hab]
    have e : a = b := by have := eq_of_beq hab; injection this
    subst e
    obtain rfl := hx.inj hy
    exact wpAny_bind (wpAny_rule (wpAny_pure (by simpa using h)))
  · rw [if_neg hab]
    exact wpAny_bind (wpAny_richCompare_same_room (op := .Eq) hx.typeIs hy.typeIs F.slot_tuple_eq
      (wpAny_call_entry F.slot_tuple_eq hx.typeIs F.entry_tuple_eq (nk_eq_tree (by show A.units + 1 + 1 < cLine; omega) hx hy ⟨_, rfl, (fun e => nomatch e), wpAny_truthy_bool h⟩) (F.args_tuple_eq_2 _ _)) (by omega))
end
def nkKind (P : Program) (w : World) : HeapKind P w (List Itm) where
  is := IsN P w
  hash := nkH P w
  draws := nkD
  room := fun A => A.units + 8 < cLine
  inj := fun hx hy => hx.inj hy
  keeps := fun x ho hd hs => x.keeps ho hd hs
  pyHash := fun hu hk h => nk_hash hu hk h
  eqBool := fun hu hx hy h => nk_eq hu hx hy h
  quiet := fun hk h => nk_quiet hk h
end NK

set_option Elab.async false
set_option linter.all false
set_option maxRecDepth 100000
set_option maxHeartbeats 4000000
namespace NK
open PySem PySem.Spec PyProof.Rows L2

abbrev KVs := List (List Itm × Addr × V)
def RelT : KVs → List (List Itm × Addr × Value) → Prop := Paired fun p q => p.1 = q.1 ∧ p.2.1 = q.2.1 ∧ RelV p.2.2 q.2.2
/-- a dict with such keys, by its one object -/
def ndP (P : Program) (w : World) (a : Addr) (kvs : KVs) (h : Heap) : Prop :=
  kvs.length ≤ sizeLine ∧ (a == sysModules) = false ∧ ∃ xs, RelT kvs xs ∧ ∃ o es ep, h.get? a = some o ∧ o.ExactDict ∧ o.data = .dict es ep ∧ es.toList = xs.map (entryOfKey (nkKind P w)) ∧ (xs.map (·.1)).Nodup
def ND (P : Program) (w : World) (a : Addr) (kvs : KVs) : HO := .ext (ndP P w a kvs)
def ItmAt (H : Hp) : Itm → V → Prop
  | .inl k, v => v = kV k
  | .inr ks, v => ∃ b, v = .ref b ∧ H b = some (.tup (ks.map kV))
/-- the tuple at b is the key k -/
def KeyAt (H : Hp) (k : List Itm) (b : Addr) : Prop := ∃ vs, H b = some (.tup vs) ∧ Paired (ItmAt H) k vs
def Keyed (H : Hp) (kvs : KVs) : Prop := ∀ p ∈ kvs, KeyAt H p.1 p.2.1
def valN (kvs : KVs) (k : List Itm) : Option V := (kvs.find? fun p => decide (p.1 = k)).map (·.2.2)
def putN (kvs : KVs) (k : List Itm) (b : Addr) (v : V) : KVs := if (valN kvs k).isSome then kvs.map (fun p => if p.1 = k then (p.1, p.2.1, v) else p) else kvs ++ [(k, b, v)]

theorem ItmAt.mono {H H' : Hp} (s : Same H H') {i : Itm} {v : V} (h : ItmAt H i v) : ItmAt H' i v := by
  cases i with
  | inl k => exact h
  | inr ks => obtain ⟨b, e, hb⟩ := h; exact ⟨b, e, s _ _ hb⟩
theorem KeyAt.mono {H H' : Hp} (s : Same H H') {k : List Itm} {b : Addr} (h : KeyAt H k b) : KeyAt H' k b := by
  obtain ⟨vs, h1, h2⟩ := h
  exact ⟨vs, s _ _ h1, Paired.mapP h2 fun _ _ z => ItmAt.mono s z⟩
/-- but for one object that is no tuple -/
theorem ItmAt.but {H H' : Hp} {a : Addr} (ha : ∀ vs, H a ≠ some (.tup vs)) (s : ∀ b o, b ≠ a → H b = some o → H' b = some o) {i : Itm} {v : V} (h : ItmAt H i v) : ItmAt H' i v := by
  cases i with
  | inl k => exact h
  | inr ks => obtain ⟨b, e, hb⟩ := h; exact ⟨b, e, s _ _ (fun z => ha _ (z ▸ hb)) hb⟩
theorem KeyAt.but {H H' : Hp} {a : Addr} (ha : ∀ vs, H a ≠ some (.tup vs)) (s : ∀ b o, b ≠ a → H b = some o → H' b = some o) {k : List Itm} {b : Addr} (h : KeyAt H k b) : KeyAt H' k b := by
  obtain ⟨vs, h1, h2⟩ := h
  exact ⟨vs, s _ _ (fun z => ha _ (z ▸ h1)) h1, Paired.mapP h2 fun _ _ z => ItmAt.but ha s z⟩
theorem Keyed.but {H H' : Hp} {a : Addr} (ha : ∀ vs, H a ≠ some (.tup vs)) (s : ∀ b o, b ≠ a → H b = some o → H' b = some o) {kvs : KVs} (h : Keyed H kvs) : Keyed H' kvs := fun p hp => (h p hp).but ha s
theorem Keyed.mono {H H' : Hp} (s : Same H H') {kvs : KVs} (h : Keyed H kvs) : Keyed H' kvs := fun p hp => (h p hp).mono s

section
variable {P : Program} {w : World} {H : Hp} {h : Heap} {a b : Addr} {kvs : KVs} {k : List Itm}
theorem itm_of (ok : HOk P w H h) {i : Itm} {v : V} {u : Value} (hi : ItmAt H i v) (r : RelV v u) : itmIs P w h i u := by
  cases i with
  | inl k => cases hi; exact kV_is (P := P) (w := w) r
  | inr ks =>
    obtain ⟨b, rfl, hb⟩ := hi
    cases r
    exact ⟨b, rfl, key_of ok hb⟩
theorem itms_of (ok : HOk P w H h) {is : List Itm} {vs : List V} (hi : Paired (ItmAt H) is vs) : ∀ {us : List Value}, Vals vs us → Paired (itmIs P w h) is us := by
  induction hi with
  | nil => intro us r; cases r; exact .nil
  | cons h1 _ ih => intro us r; cases r with | cons r1 r2 => exact .cons (itm_of ok h1 r1) (ih r2)
theorem isN_of (ok : HOk P w H h) (hk : KeyAt H k b) : IsN P w h k b := by
  obtain ⟨vs, hb, hi⟩ := hk
  obtain ⟨_, its, r, o, h1, h2, n, h3⟩ := (show ObjOk P w H h b (.tup vs) from ok b _ hb)
  exact ⟨o, its.toArray, n, h1, h2, h3, by simpa using itms_of ok hi r⟩
theorem nd_of (ok : HOk P w H h) (e : H a = some (ND P w a kvs)) (kd : Keyed H kvs) : kvs.length ≤ sizeLine ∧ (a == sysModules) = false ∧ ∃ xs, RelT kvs xs ∧ h.DictOfH (nkKind P w) a xs := by
  obtain ⟨z, y, xs, r, o, es, ep, h1, h2, h3, h4, h5⟩ := (show ObjOk P w H h a (ND P w a kvs) from ok a _ e).1
  refine ⟨z, y, xs, r, o, es, ep, h1, h2, h3, h4, fun x hx => ?_, h5⟩
  have all : ∀ {l : KVs} {m : List (List Itm × Addr × Value)}, RelT l m → (∀ p ∈ l, KeyAt H p.1 p.2.1) → ∀ x ∈ m, (nkKind P w).is h x.1 x.2.1 := by
    intro l m q
    unfold RelT at q
    induction q with
    | nil => intro _ x hx; exact nomatch hx
    | @cons p q ps qs hq t ih =>
      intro kd x hx
      rcases List.mem_cons.mp hx with e | hx
      · subst e
        rw [← hq.1, ← hq.2.1]
        exact isN_of ok (kd p List.mem_cons_self)
      · exact ih (fun p hp => kd p (List.mem_cons_of_mem _ hp)) x hx
  exact all r kd x hx
theorem nd_new {H' : Hp} {h' : Heap} {xs : List (List Itm × Addr × Value)} (z : kvs.length ≤ sizeLine) (y : (a == sysModules) = false) (r : RelT kvs xs) (dd : h'.DictOfH (nkKind P w) a xs) : ObjOk P w H' h' a (ND P w a kvs) := by
  obtain ⟨o, es, ep, h1, h2, h3, h4, _, h5⟩ := dd
  refine ⟨⟨z, y, xs, r, o, es, ep, h1, h2, h3, h4, h5⟩, ⟨o, h1⟩, ?_⟩
  rintro g1 g2 ⟨z, y, xs, r, o, es, ep, h1, h2⟩ k
  exact ⟨z, y, xs, r, o, es, ep, k o h1, h2⟩
theorem rel_val {xs : List (List Itm × Addr × Value)} (r : RelT kvs xs) (k : List Itm) : RelO (valN kvs k) ((atKey xs k).map (·.2)) := by
  unfold RelT at r
  induction r with
  | nil => exact True.intro
  | @cons p q ps qs h t ih =>
    obtain ⟨h1, _, h2⟩ := h
    unfold valN atKey at *
    by_cases e : p.1 = k
    · have e' : q.1 = k := h1.symm.trans e
      simp only [List.find?_cons, decide_eq_true e, decide_eq_true e', Option.map_some]
      exact h2
    · have e' : ¬ q.1 = k := fun z => e (h1.trans z)
      simp only [List.find?_cons, decide_eq_false e, decide_eq_false e']
      exact ih
theorem rel_put {xs : List (List Itm × Addr × Value)} (r : RelT kvs xs) (k : List Itm) {b : Addr} {v : V} {u : Value} (rv : RelV v u) : RelT (putN kvs k b v) (storedH xs k b u) := by
  have e : (valN kvs k).isSome = (atKey xs k).isSome := by rw [(rel_val r k).isSome_eq, Option.isSome_map]
  unfold putN storedH
  rw [e]
  by_cases q : (atKey xs k).isSome = true
  · rw [if_pos q, if_pos q]
    unfold RelT at r ⊢
    clear e q
    induction r with
    | nil => exact .nil
    | @cons p q ps qs h t ih =>
      rw [List.map_cons, List.map_cons]
      refine .cons ?_ ih
      obtain ⟨h1, h2, h3⟩ := h
      unfold putAt
      by_cases e : p.1 = k
      · rw [if_pos e, if_pos (h1.symm.trans e)]; exact ⟨h1, h2, rv⟩
      · rw [if_neg e, if_neg (fun z => e (h1.trans z))]; exact ⟨h1, h2, h3⟩
  · rw [if_neg q, if_neg q]
    unfold RelT at r ⊢
    exact Paired.snoc r ⟨rfl, rfl, rv⟩
theorem putN_length (kvs : KVs) (k : List Itm) (b : Addr) (v : V) : (putN kvs k b v).length ≤ kvs.length + 1 := by
  unfold putN
  split
  · rw [List.length_map]; omega
  · rw [List.length_append, List.length_singleton]
    exact Nat.le_refl _
end

/-! ### rules -/
section
variable {X : Cx}
/-- {} -/
def tNNew (P : Program) (w : World) : TE := fun _ H Q => ∀ p, H p = none → Q (.ref p) (upd H p (ND P w p []))
theorem pe_nnew {pos : Pos} : PE X (.Dict [] [] pos) (tNNew X.prog X.w) := ⟨fun pins s σ H Q I h => by
  have dd := Heap.DictOfH.new (knd := nkKind X.prog X.w) s.heap
  refine wpAny_Dict_empty ⟨.ref s.heap.objs.size, _, I.laid (a := s.heap.objs.size) (o := ND X.prog X.w s.heap.objs.size []) (t' := s.toks) (fun _ _ q => Heap.get?_push_of_some _ q) (Nat.le_refl _)
    (nd_new (Nat.zero_le _) (beq_eq_false_iff_ne.mpr (Ne.symm (Nat.ne_of_lt I.big))) .nil dd), rfl, h _ (I.hok.fresh (Nat.le_refl _))⟩⟩
/-- k not in d -/
def tNNotIn (P : Program) (w : World) (ty td : TE) : TE := fun σ H Q => ty σ H fun y H1 => td σ H1 fun x H2 => ∃ a kvs k b, x = .ref a ∧ y = .ref b ∧ H2 a = some (ND P w a kvs) ∧ Keyed H2 kvs ∧ KeyAt H2 k b ∧ Q (.bl (!(valN kvs k).isSome)) H2
variable {o i value : Expr} {td ty tv : TE} {pos pos' : Pos}
theorem pc_nnotin (hu : X.A.units + 16 < cLine) (hi : PE X i ty) (ho : PE X o td) : PC X .NotIn i o (tNNotIn X.prog X.w ty td) := by
  refine ⟨fun pins s σ H Q I h => ?_⟩
  refine thn (hi.run pins s σ H _ I h) fun iv s1 ⟨y, H1, I1, ry, q1⟩ => thn (ho.run pins s1 σ H1 _ I1 q1) fun u s2 ⟨x, H2, I2, rx, a, kvs, k, b, ex, ey, e, kd, hk, q2⟩ => ?_
  subst ex ey
  obtain rfl : u = Value.ref a := rx
  obtain rfl : iv = Value.ref b := ry
  obtain ⟨z, hd, xs, rel, dd⟩ := nd_of I2.hok e kd
  refine wpAny_notIn_heap (knd := nkKind X.prog X.w) (by show X.A.units + 1 + 8 < cLine; omega) (isN_of I2.hok hk) hd dd ?_
  have q := (rel_val rel k).isSome_eq
  rw [Option.isSome_map] at q
  rw [← q]
  exact ⟨.bl (!(valN kvs k).isSome), H2, I2.tok _, rfl, q2⟩
/-- d[k] -/
def tNGet (P : Program) (w : World) (td ty : TE) : TE := fun σ H Q => td σ H fun x H1 => ty σ H1 fun y H2 => ∃ a kvs k b v, x = .ref a ∧ y = .ref b ∧ H2 a = some (ND P w a kvs) ∧ Keyed H2 kvs ∧ KeyAt H2 k b ∧ valN kvs k = some v ∧ Q v H2
theorem pe_nget (hu : X.A.units + 16 < cLine) (ho : PE X o td) (hi : PE X i ty) (hs : NoSl i) : PE X (.Subscript o i pos) (tNGet X.prog X.w td ty) := by
  refine ⟨fun pins s σ H Q I h => ?_⟩
  refine subD_of PySem.F.slot_dict_getitem.lookup hs (thn (ho.run pins s σ H _ I h) fun u s1 ⟨x, H1, I1, rx, q1⟩ => thn (hi.run pins s1 σ H1 _ I1 q1) fun iv s2 ⟨y, H2, I2, ry, a, kvs, k, b, v, ex, ey, e, kd, hk, hv, q2⟩ => ?_)
  subst ex ey
  obtain rfl : u = Value.ref a := rx
  obtain rfl : iv = Value.ref b := ry
  obtain ⟨z, hd, xs, rel, dd⟩ := nd_of I2.hok e kd
  obtain ⟨w', hw, rw'⟩ := RelO.some_of (v := v) (o := (atKey xs k).map (·.2)) (by rw [← hv]; exact rel_val rel k)
  obtain ⟨p, hp, hp2⟩ := Option.map_eq_some_iff.mp hw
  refine ⟨dd.typeIs, wpAny_getItem_heap (knd := nkKind X.prog X.w) (by show X.A.units + 1 + 8 < cLine; omega) (isN_of I2.hok hk) dd hp ?_⟩
  rw [hp2]
  exact ⟨v, H2, I2.tok _, rw', q2⟩
/-- d[k] = v -/
def sNPut (P : Program) (w : World) (td ty tv : TE) : TS := fun D σ H => tv σ H fun v H1 => td σ H1 fun x H2 => ty σ H2 fun y H3 => ∃ a kvs k b, x = .ref a ∧ y = .ref b ∧ H3 a = some (ND P w a kvs) ∧ Keyed H3 kvs ∧ KeyAt H3 k b ∧
  kvs.length < sizeLine ∧ D.nx σ (upd H3 a (ND P w a (putN kvs k b v)))
theorem ps_nput (hu : X.A.units + 16 < cLine) (ho : PE X o td) (hi : PE X i ty) (hv : PE X value tv) (hs : swapsWith value (some (.Subscript o i pos')) pos.line X.env = pure false) :
    PS X (.Assign [.Subscript o i pos'] value pos) (sNPut X.prog X.w td ty tv) := by
  refine ⟨fun pins s σ H D I h => ?_⟩
  refine wpAny_Assign_Subscript (thn (hv.run pins s σ H _ I h) fun r s1 ⟨v, H1, I1, rv, q1⟩ => thn (ho.run pins s1 σ H1 _ I1 q1) fun u s2 ⟨x, H2, I2, rx, q2⟩ => thn (hi.run pins s2 σ H2 _ I2 q2) fun iv s3 ⟨y, H3, I3, ry, a, kvs, k, b, ex, ey, e, kd, hk, l, q3⟩ => ?_) hs
  subst ex ey
  obtain rfl : u = Value.ref a := rx
  obtain rfl : iv = Value.ref b := ry
  obtain ⟨z, hd, xs, rel, dd⟩ := nd_of I3.hok e kd
  have hz : xs.length ≤ sizeLine := by
    have := Paired.length (show Paired _ kvs xs from rel)
    omega
  have hl : (putN kvs k b v).length ≤ sizeLine := by
    have := putN_length kvs k b v
    omega
  refine wpAny_setItem_heap (knd := nkKind X.prog X.w) (hsz := hz) (by show X.A.units + 1 + 8 < cLine; omega) (isN_of I3.hok hk) dd fun h' dd' hs => ?_
  have he : ∃ q, h'.get? a = some q := by
    obtain ⟨q, es, ep, hq, _⟩ := dd'
    exact ⟨q, hq⟩
  exact ⟨σ, _, d_write I3 (by rw [e]; exact True.intro) hs he (nd_new hl hd (rel_put rel k rv) dd'), q3⟩
/-- len(d) -/
theorem call_lenN : CallR X (.builtin "len") (fun xs H Q => ∃ a kvs, xs = [V.ref a] ∧ H a = some (ND X.prog X.w a kvs) ∧ Keyed H kvs ∧ Q (.int kvs.length) H) := by
  intro pins s σ H xs us Q I r h
  obtain ⟨a, kvs, rfl, ha, kd, q⟩ := h
  obtain ⟨u, rfl, ru⟩ := vals1 r
  obtain rfl : u = Value.ref a := ru
  obtain ⟨z, hd, ys, rel, dd⟩ := nd_of I.hok ha kd
  have hl : kvs.length = ys.length := Paired.length (show Paired _ kvs ys from rel)
  refine call_len_dictH hd dd (by rw [← hl]; rw [sizeLine_eq] at z; omega) ?_
  rw [← hl]
  exact ⟨.int ((kvs.length : Nat) : Int), H, I.tok _, ⟨_, rfl⟩, q⟩
end
end NK

set_option Elab.async false
set_option linter.all false
set_option maxRecDepth 100000
set_option maxHeartbeats 4000000
namespace W8
open PySem L2
def top (i : Nat) : Stmt := PySem.Challenge.pw_turtlestold_k87_whole_steps_taken_back.main.body.getD i (.Pass ⟨0, 0, 0, 0⟩)

/-! ### heaps but for one object -/
def But (a : Addr) (H H' : Hp) : Prop := ∀ b o, b ≠ a → H b = some o → H' b = some o
theorem But.refl (a : Addr) (H : Hp) : But a H H := fun _ _ _ h => h
theorem But.trans {a : Addr} {H H1 H2 : Hp} (x : But a H H1) (y : But a H1 H2) : But a H H2 := fun b o n h => y b o n (x b o n h)
theorem But.upd {a : Addr} {H : Hp} {o : HO} : But a H (upd H a o) := fun b u n h => by rw [upd_ne n]; exact h
theorem But.of {a : Addr} {H H' : Hp} (s : Same H H') : But a H H' := fun b o _ h => s b o h
theorem same_new {H : Hp} {p : Addr} (h : H p = none) (o : HO) : Same H (L2.upd H p o) := fun b u q => by rw [upd_ne (ne_of_none q h)]; exact q
theorem But.new {a p : Addr} {H : Hp} (h : H p = none) (o : HO) : But a H (L2.upd H p o) := But.of (same_new h o)
/-- what was new before and stays so -/
theorem But.seq {K : PySem.W.Frag} {a p : Addr} {H H' : Hp} {xs : List V} (x : But a H H') (n : p ≠ a) (h : SqL K H p xs) : SqL K H' p xs := by
  rcases h with (h | ⟨o, h⟩) | h
  · exact .inl (.inl (x _ _ n h))
  · exact .inl (.inr ⟨o, x _ _ n h⟩)
  · exact .inr h
theorem But.tup {K : PySem.W.Frag} {a p : Addr} {H H' : Hp} {xs : List V} (x : But a H H') (n : p ≠ a) (h : SqT K H p xs) : SqT K H' p xs := by
  rcases h with (h | ⟨o, h⟩) | h
  · exact .inl (.inl (x _ _ n h))
  · exact .inl (.inr ⟨o, x _ _ n h⟩)
  · exact .inr h
theorem sz {n : Nat} (h : n ≤ 100000) : n ≤ sizeLine := Nat.le_trans h (by decide)

theorem at_map {α : Type} (g : α → V) {cs : List α} {i : Int} (h0 : 0 ≤ i) (h : i < (cs.length : Int)) : ∃ z, z ∈ cs ∧ cs[i.toNat]? = some z ∧ atI (cs.map g) i = some (g z) := by
  have hi : i.toNat < cs.length := by omega
  have ei : i = (i.toNat : Int) := by omega
  refine ⟨cs[i.toNat], List.getElem_mem hi, List.getElem?_eq_getElem hi, ?_⟩
  have q : atI (cs.map g) (i.toNat : Int) = some (g cs[i.toNat]) := atI_nat (by rw [List.getElem?_map, List.getElem?_eq_getElem hi] <;> rfl)
  rw [← ei] at q
  exact q
theorem int_eq {i j : Int} (h : decide (V.int i = V.int j) = true) : i = j := by
  have e := of_decide_eq_true h
  injection e
theorem int_ne {i j : Int} (h : ¬ decide (V.int i = V.int j) = true) : i ≠ j := fun e => h (decide_eq_true (by rw [e]))
theorem dec_ff {p : Prop} [Decidable p] (h : ¬ decide p = true) : ¬ p := fun e => h (decide_eq_true e)
/-! ### the list that draws -/
def stL (p : Addr) (i v l m : Int) : List V := [.ref p, .int i, .int v, .int l, .int m]
structure StAt (K : PySem.W.Frag) (H : Hp) (a p : Addr) (cs : List Int) (i v l m : Int) : Prop where
  h : H a = some (.lst (stL p i v l m))
  c : H p = some (.lst (cs.map V.int))
  ne : p ≠ a
  b : ∀ z ∈ cs, Builtin.Int.intBits z ≤ 1048576
  n : cs.length ≤ 63
  i0 : 0 ≤ i
  v0 : 0 ≤ v
  m0 : m = 1 ∨ v < 2147483647
def StOk (K : PySem.W.Frag) (H : Hp) (a p : Addr) : Prop := ∃ cs i v l m, StAt K H a p cs i v l m
theorem StAt.put {K : PySem.W.Frag} {H : Hp} {a p : Addr} {cs : List Int} {i v l m i' v' l' m' : Int} (s : StAt K H a p cs i v l m) (xs : List V) (e : xs = stL p i' v' l' m') (hi : 0 ≤ i') (hv : 0 ≤ v') (hm : m' = 1 ∨ v' < 2147483647) : StAt K (upd H a (.lst xs)) a p cs i' v' l' m' :=
  ⟨by rw [upd_same, e], But.upd _ _ s.ne s.c, s.ne, s.b, s.n, hi, hv, hm⟩

/-! ### a def that may be called by its name -/
structure Cal (P : Program) (w : World) (K : PySem.W.Frag) (mg : Str → Option Value) (base : Heap) (x : Str) (k : Nat) (ps : List Str) (sp : Sp) : Prop where
  ex : ∃ (f : Addr) (fd : FuncData), FnOk P w K mg base CX0 k f fd ps sp ∧ mg x = some (.ref f) ∧ PySem.W.keepIn K (.ref f) = true ∧ Binds K fd ps []
section
variable {X : Cx} {x : Str} {k j : Nat} {ps : List Str} {sp : Sp} {p pos : Pos} {e : Expr} {es : List Expr} {t : TA}
theorem pcall (C : Cal X.prog X.w X.K X.mg X.base x k ps sp) (hr : Room j X.A) (ha : PA X (e :: es) t) (hk : k ≤ j := by decide) (hg : Gl X x := by rfl) (hdb : (x == ("__debug__" : Str)) = false := by decide)
    (he : starEach (e :: es) X.env = (false, eval e X.env) :: starEach es X.env := by rfl) (hpl : (backTo pos (starEach es X.env)).any (·.1) = false := by rfl) : PE X (.Call (.Name x p) (e :: es) [] pos) (tCall sp [] E0 t) := by
  obtain ⟨f, fd, G, hm, kp, b⟩ := C.ex
  exact pe_call G (hr.mono hk) hg hm kp b .nil pass0 ha hdb he hpl
/-- built-ins by their names -/
theorem pB1 {a : Expr} {ta : TE} {id : String} {r : List V → Hp → VK → Prop} (hc : CallR X (.builtin id) r) (tl : X.mg x = none) (ha : PE X a ta) (hv : bootBuiltins x = some (.builtin id) := by decide +kernel) (hg : Gl X x := by rfl) (hn : x ≠ "__name__" := by decide)
    (hdb : (x == ("__debug__" : Str)) = false := by decide) (hs : starEach [a] X.env = (false, eval a X.env) :: starEach [] X.env := by rfl) : PE X (.Call (.Name x p) [a] [] pos) (tCB r (tCons ta tNil)) :=
  pe_callB hc hg tl hv (pa_cons ha pa_nil hs) hn hdb hs
theorem pT1 {a : Expr} {ta : TE} {T : String} {r : List V → Hp → VK → Prop} (hc : CallR X (.type T) r) (tl : X.mg x = none) (ha : PE X a ta) (hv : bootBuiltins x = some (.type T) := by decide +kernel) (hg : Gl X x := by rfl) (hn : x ≠ "__name__" := by decide)
    (hdb : (x == ("__debug__" : Str)) = false := by decide) (hs : starEach [a] X.env = (false, eval a X.env) :: starEach [] X.env := by rfl) : PE X (.Call (.Name x p) [a] [] pos) (tCB r (tCons ta tNil)) :=
  pe_callTy hc hg tl hv (pa_cons ha pa_nil hs) hn hdb hs
def rTupOf (K : PySem.W.Frag) : List V → Hp → VK → Prop := fun xs H Q => ∃ p ys, xs = [.ref p] ∧ ((SqL K H p ys ∧ ∀ l, H l = none → Q (.ref l) (upd H l (.tup ys))) ∨ (SqT K H p ys ∧ Q (.ref p) H))
theorem cr_tupOf : CallR X (.type "tuple") (rTupOf X.K) := call_tuple_of
def rLstOf (K : PySem.W.Frag) : List V → Hp → VK → Prop := fun xs H Q => ∃ p ys, xs = [.ref p] ∧ (SqL K H p ys ∨ SqT K H p ys) ∧ ∀ l, H l = none → Q (.ref l) (upd H l (.lst ys))
theorem cr_lstOf : CallR X (.type "list") (rLstOf X.K) := call_list_of
def rLenOf (K : PySem.W.Frag) : List V → Hp → VK → Prop := fun xs H Q => ∃ p ys, xs = [.ref p] ∧ (SqL K H p ys ∨ SqT K H p ys) ∧ Q (.int ys.length) H
theorem cr_lenOf : CallR X (.builtin "len") (rLenOf X.K) := call_len_seq
variable {a b o : Expr} {ta tb : TE}
abbrev pixL (ha : PE X a ta) (hb : PE X b tb) (hs : PlainIx b := by exact fun _ _ => rfl) : PE X (.Subscript a b pos) (tOp (rIxL X.K) ta tb) := pe_ix ix_list ha hb hs
abbrev pixT (ha : PE X a ta) (hb : PE X b tb) (hs : PlainIx b := by exact fun _ _ => rfl) : PE X (.Subscript a b pos) (tOp (rIxT X.K) ta tb) := pe_ix ix_tup ha hb hs
abbrev pixS (ha : PE X a ta) (hb : PE X b tb) (hs : PlainIx b := by exact fun _ _ => rfl) : PE X (.Subscript a b pos) (tOp rIxS ta tb) := pe_ix ix_str ha hb hs
end

/-! ### texts as lists of codes -/
def S (w : List Nat) : Str := ⟨w.toArray⟩
theorem S_len (w : List Nat) : (S w).length = w.length := rfl
theorem S_app (u v : List Nat) : S u ++ S v = S (u ++ v) := by
  show (⟨u.toArray ++ v.toArray⟩ : Str) = ⟨(u ++ v).toArray⟩
  rw [List.append_toArray]
theorem S_one (c : Nat) : (⟨#[c]⟩ : Str) = S [c] := rfl
theorem S_inj {u v : List Nat} (h : S u = S v) : u = v := by
  have : u.toArray = v.toArray := congrArg Str.cps h
  simpa using this
theorem S_of (z : Str) : z = S z.cps.toList := by
  cases z
  rfl
theorem S_codes (w : List Nat) : (S w).cps.toList = w := rfl
theorem at_S {w : List Nat} {i : Int} (h0 : 0 ≤ i) (h : i < (w.length : Int)) : ∃ c, c ∈ w ∧ w[i.toNat]? = some c ∧ atI (S w).cps.toList i = some c := by
  have hi : i.toNat < w.length := by omega
  have ei : i = (i.toNat : Int) := by omega
  refine ⟨w[i.toNat], List.getElem_mem hi, List.getElem?_eq_getElem hi, ?_⟩
  have q : atI w (i.toNat : Int) = some w[i.toNat] := atI_nat (List.getElem?_eq_getElem hi)
  rw [← ei] at q
  exact q
end W8

set_option Elab.async false
set_option linter.all false
set_option maxRecDepth 100000
set_option maxHeartbeats 4000000
namespace W8
open PySem L2
/-! ### walks of comprehensions by a word over what is made so far -/
section
variable {K : PySem.W.Frag} {body : V → Hp → (Hp → Prop) → Prop} {Qn : Hp → Prop} {H0 : Hp}
theorem walk_t {a : Addr} {xs : List V} (Pv : Nat → Hp → Prop) (h0 : Pv 0 H0) (hl : ∀ i H, Pv i H → SqT K H a xs) (hs : ∀ i x H, xs[i]? = some x → Pv i H → body x H (Pv (i + 1))) (hd : ∀ H, Pv xs.length H → Qn H) :
    ∃ W : Nat → Nat → Hp → Prop, (∃ m, W 0 m H0) ∧ ∀ i m H, W i m H → ((Itt K a).stop i H ∧ Qn H) ∨ ((Itt K a).go i H ∧ ∃ Nx : Hp → Prop, (∀ H', Nx H' → ∃ m', m' < m ∧ W (i + 1) m' H') ∧ ∀ x H', (Itt K a).yld i H x H' → body x H' Nx) := by
  refine ⟨fun i m H => m = xs.length - i ∧ i ≤ xs.length ∧ Pv i H, ⟨xs.length, by simp, Nat.zero_le _, h0⟩, ?_⟩
  rintro i m H ⟨rfl, hi, p⟩
  have q := hl i H p
  by_cases hlt : i < xs.length
  · refine .inr ⟨⟨xs, xs[i], q, by simp [hlt]⟩, Pv (i + 1), fun H' p' => ⟨xs.length - (i + 1), by omega, rfl, hlt, p'⟩, fun x H' y => ?_⟩
    obtain ⟨e, y⟩ := y
    subst e
    exact hs i x _ (y xs q) p
  · have e : i = xs.length := by omega
    subst e
    exact .inl ⟨⟨xs, q, Nat.le_refl _⟩, hd H p⟩
theorem walk_l {a : Addr} {xs : List V} (Pv : Nat → Hp → Prop) (h0 : Pv 0 H0) (hl : ∀ i H, Pv i H → SqL K H a xs) (hs : ∀ i x H, xs[i]? = some x → Pv i H → body x H (Pv (i + 1))) (hd : ∀ H, Pv xs.length H → Qn H) :
    ∃ W : Nat → Nat → Hp → Prop, (∃ m, W 0 m H0) ∧ ∀ i m H, W i m H → ((Itl K a).stop i H ∧ Qn H) ∨ ((Itl K a).go i H ∧ ∃ Nx : Hp → Prop, (∀ H', Nx H' → ∃ m', m' < m ∧ W (i + 1) m' H') ∧ ∀ x H', (Itl K a).yld i H x H' → body x H' Nx) := by
  refine ⟨fun i m H => m = xs.length - i ∧ i ≤ xs.length ∧ Pv i H, ⟨xs.length, by simp, Nat.zero_le _, h0⟩, ?_⟩
  rintro i m H ⟨rfl, hi, p⟩
  have q := hl i H p
  by_cases hlt : i < xs.length
  · refine .inr ⟨⟨xs, xs[i], q, by simp [hlt]⟩, Pv (i + 1), fun H' p' => ⟨xs.length - (i + 1), by omega, rfl, hlt, p'⟩, fun x H' y => ?_⟩
    obtain ⟨e, y⟩ := y
    subst e
    exact hs i x _ (y xs q) p
  · have e : i = xs.length := by omega
    subst e
    exact .inl ⟨⟨xs, q, Nat.le_refl _⟩, hd H p⟩
theorem walk_r {lo : Int} {n : Nat} (Pv : Nat → Hp → Prop) (h0 : Pv 0 H0) (hs : ∀ i H, i < n → Pv i H → body (.int (lo + (i : Nat))) H (Pv (i + 1))) (hd : ∀ H, Pv n H → Qn H) :
    ∃ W : Nat → Nat → Hp → Prop, (∃ m, W 0 m H0) ∧ ∀ i m H, W i m H → ((Itr lo n).stop i H ∧ Qn H) ∨ ((Itr lo n).go i H ∧ ∃ Nx : Hp → Prop, (∀ H', Nx H' → ∃ m', m' < m ∧ W (i + 1) m' H') ∧ ∀ x H', (Itr lo n).yld i H x H' → body x H' Nx) := by
  refine ⟨fun i m H => m = n - i ∧ i ≤ n ∧ Pv i H, ⟨n, by simp, Nat.zero_le _, h0⟩, ?_⟩
  rintro i m H ⟨rfl, hi, p⟩
  by_cases hlt : i < n
  · refine .inr ⟨hlt, Pv (i + 1), fun H' p' => ⟨n - (i + 1), by omega, rfl, hlt, p'⟩, fun x H' y => ?_⟩
    obtain ⟨e, y⟩ := y
    subst e y
    exact hs i _ hlt p
  · have e : i = n := by omega
    subst e
    exact .inl ⟨Nat.le_refl _, hd H p⟩
end
/-- no test stands in the comprehension -/
theorem yes {σ : L2.St} {H : Hp} {A B : Hp → Prop} (h : A H) : tYes σ H (fun b H' => if b = true then A H' else B H') := by
  show if true = true then A H else B H
  rw [if_pos rfl]
  exact h
theorem small_lt {n : Nat} (h : n < 100000) : n < sizeLine := Nat.lt_of_lt_of_le h (by decide)
/-- a value is made by the element of a comprehension, the list at D grows -/
theorem grown {H4 : Hp} {D : Addr} {acc : List V} {y : V} {N : Hp → Prop} (h : H4 D = some (.lst acc)) (hn : acc.length < 100000) (q : N (upd H4 D (.lst (acc ++ [y])))) : ∃ acc', H4 D = some (.lst acc') ∧ acc'.length < sizeLine ∧ N (upd H4 D (.lst (acc' ++ [y]))) :=
  ⟨acc, h, small_lt hn, q⟩
theorem take_succ_map {α : Type} (g : α → V) {xs : List α} {i : Nat} {x : α} (h : xs[i]? = some x) : (xs.take (i + 1)).map g = (xs.take i).map g ++ [g x] := by
  rw [List.take_add_one, h, List.map_append]
  rfl
end W8

set_option Elab.async false
set_option linter.all false
set_option maxRecDepth 100000
set_option maxHeartbeats 4000000
namespace W8
open PySem L2
abbrev sDraw : Stmt := top 61
theorem scDraw : FnScope ["state", "many", "cell", "digit"] ["state", "many"] (defScope sDraw) := ⟨rfl, rfl, rfl, by decide +kernel, rfl, by decide +kernel, by decide +kernel⟩
/-- a number below many, and the drawing list goes on -/
def spDraw (K : PySem.W.Frag) : Sp := fun vs H Q _ => ∃ (a : Addr) (m : Int), vs = [.ref a, .int m] ∧ 1 ≤ m ∧ m ≤ 1000 ∧ ∃ p, StOk K H a p ∧ ∀ r H', 0 ≤ r → r < m → But a H H' → StOk K H' a p → Q (.int r) H'
section
variable {P : Program} {w : World} {K : PySem.W.Frag} {mg : Str → Option Value} {base : Heap}
theorem ok_draw {f : Addr} {fd : FuncData} (F : Fun K "_law_draw" "_law_draw" sDraw f fd) (tl : mg "len" = none) (ti : mg "int" = none) : FnOk P w K mg base CX0 1 f fd ["state", "many"] (spDraw K) := by
  refine F.ok scDraw (fun vs H Q E h => ?_) (fun cdv A outer s H vs Q E hr h => ?_)
  · obtain ⟨a, m, rfl, _⟩ := h
    rfl
  obtain ⟨a, many, rfl, m1, m2, p, ⟨cs, i, v, l, m, S⟩, q⟩ := h
  refine ⟨_, C8.pss_cut (ps_if (PW.pt (pw_and (pt_cmpR op_eq (pixL (pv 0) pe_int) pe_int (nomark _))
        (pw_and1 (pt_cmpR op_lt (pixL (pv 0) pe_int) (pB1 call_len_seq tl (pixL (pv 0) pe_int)) (nomark _)))))
      (pss_cons (ps_set (i := 2) scDraw.nd rfl (Or.inl rfl) (pixL (pixL (pv 0) pe_int) (pixL (pv 0) pe_int)))
        (pss_cons (ps_asg (pe_op op_add (pixL (pv 0) pe_int) pe_int) (pg_sub (pv 0) pe_int set_list))
        (pss_one (ps_if (pt_cmpR op_ge (pv 2) (pe_op op_pow pe_int pe_int) (nomark _))
          (pss_cons (ps_asg (pe_op op_sub (pv 2) (pe_op op_pow pe_int pe_int)) (pg_sub (pv 0) pe_int set_list))
            (pss_cons (ps_asg pe_int (pg_sub (pv 0) pe_int set_list)) (pss_one (ps_asg pe_int (pg_sub (pv 0) pe_int set_list)))))
          (pss_cons (ps_asg (pe_op op_mod (pT1 call_int1 ti (pe_op op_mulB (pv 2) pe_int)) pe_int) (pg_sub (pv 0) pe_int set_list))
            (pss_cons (ps_asg pe_int (pg_sub (pv 0) pe_int set_list)) (pss_one (ps_asg pe_int (pg_sub (pv 0) pe_int set_list)))))))))
      pss_nil)
    (pss_cons (ps_if (pt_cmpR op_eq (pixL (pv 0) pe_int) pe_int (nomark _)) (pss_one (ps_ret pe_int)) pss_nil)
    (pss_cons (ps_asg (pe_op op_sub (pixL (pv 0) pe_int) pe_int) (pg_sub (pv 0) pe_int set_list))
    (pss_cons (ps_if (pt_cmpR op_eq (pixL (pv 0) pe_int) pe_int (nomark _))
      (pss_cons (ps_set (i := 3) scDraw.nd rfl (Or.inl rfl) (pe_op op_mod (pT1 call_int1 ti (pixL (pv 0) pe_int)) (pv 1)))
        (pss_cons (ps_asg (pe_op op_fdiv (pixL (pv 0) pe_int) (pv 1)) (pg_sub (pv 0) pe_int set_list))
        (pss_cons (ps_if (pt_cmpR op_eq (pixL (pv 0) pe_int) pe_int (nomark _)) (pss_one (ps_asg pe_int (pg_sub (pv 0) pe_int set_list))) pss_nil)
        (pss_one (ps_ret (pv 3)))))) pss_nil)
    (pss_cons (ps_asg (pe_op op_mod (pT1 call_int1 ti (pe_op op_mul (pixL (pv 0) pe_int) pe_int)) pe_int) (pg_sub (pv 0) pe_int set_list))
    (pss_one (ps_ret (pe_op op_mod (pT1 call_int1 ti (pe_op op_fdiv (pixL (pv 0) pe_int) pe_int)) (pv 1)))))))), ?_⟩
  refine ⟨fun σ' H' => ∃ (x : Option V) (cs : List Int) (i v l m : Int), σ' = [some (.ref a), some (.int many), x, none] ∧ But a H H' ∧ StAt K H' a p cs i v l m, ?_, ?_⟩
  · -- if state[3] == 0 and state[1] < len(state[0]): ..
    refine ⟨_, rfl, _, _, _, _, rfl, rfl, SqL.of S.h, rfl, rfl, _, rfl, ?_⟩
    refine ite2 (fun e1 => ?_) (fun _ => ?_)
    · refine ⟨_, rfl, _, _, _, _, rfl, rfl, SqL.of S.h, rfl, _, rfl, _, _, _, _, rfl, rfl, SqL.of S.h, rfl, _, _, rfl, .inl (SqL.of S.c), _, _, rfl, rfl, _, rfl, ?_⟩
      refine ite2 (fun e2 => ?_) (fun _ => ?_)
      · have e2' : i < ((cs.map V.int).length : Int) := of_decide_eq_true e2
        rw [List.length_map] at e2'
        obtain ⟨cell, hm, _, hat⟩ := at_map V.int S.i0 e2'
        have hb := S.b _ hm
        refine ⟨_, rfl, _, _, _, _, rfl, rfl, SqL.of S.h, rfl, _, rfl, _, _, _, _, rfl, rfl, SqL.of S.h, rfl, _, _, _, _, rfl, rfl, SqL.of S.c, hat, ?_⟩
        -- state[1] = state[1] + 1
        refine ⟨_, rfl, _, _, _, _, rfl, rfl, SqL.of S.h, rfl, _, _, rfl, rfl, _, rfl, _, _, _, _, rfl, rfl, S.h, rfl, ?_⟩
        have S1 : StAt K (upd H a (.lst (stL p (i + 1) v l m))) a p cs (i + 1) v l m := S.put _ rfl (by have := S.i0; omega) S.v0 S.m0
        have B1 : But a H (upd H a (.lst (stL p (i + 1) v l m))) := But.upd
        refine ⟨_, rfl, _, _, rfl, rfl, ⟨by decide, by decide, by decide⟩, _, _, rfl, rfl, _, rfl, ?_⟩
        refine ite2 (fun e3 => ?_) (fun _ => ?_)
        · -- state[2] = cell - 10 ** 18; state[3] = 60; state[4] = 1
          have e3' : (10 : Int) ^ 18 ≤ cell := of_decide_eq_true e3
          refine ⟨_, rfl, _, _, rfl, rfl, ⟨by decide, by decide, by decide⟩, _, _, rfl, rfl, _, rfl, _, _, _, _, rfl, rfl, S1.h, rfl, ?_⟩
          refine ⟨_, rfl, _, _, _, _, rfl, rfl, upd_same, rfl, ?_⟩
          refine ⟨_, rfl, _, _, _, _, rfl, rfl, upd_same, rfl, ?_⟩
          rw [upd_upd, upd_upd]
          exact ⟨some (.int cell), cs, i + 1, cell - 10 ^ 18, 60, 1, rfl, B1.trans But.upd, S1.put _ rfl S1.i0 (by omega) (.inl rfl)⟩
        · refine ⟨_, rfl, _, _, rfl, rfl, ⟨by omega, by decide⟩, .inl ⟨_, rfl, _, _, rfl, rfl, (by show (0 : Int) < 2147483647; decide), _, rfl, _, _, _, _, rfl, rfl, S1.h, rfl, ?_⟩⟩
          refine ⟨_, rfl, _, _, _, _, rfl, rfl, upd_same, rfl, ?_⟩
          refine ⟨_, rfl, _, _, _, _, rfl, rfl, upd_same, rfl, ?_⟩
          rw [upd_upd, upd_upd]
          exact ⟨some (.int cell), cs, i + 1, cell * 48271 % 2147483647, 5, 0, rfl, B1.trans But.upd, S1.put _ rfl S1.i0 (by omega) (.inr (by omega))⟩
      · exact ⟨none, cs, i, v, l, m, rfl, But.refl _ _, S⟩
    · exact ⟨none, cs, i, v, l, m, rfl, But.refl _ _, S⟩
  · rintro σ' H1 ⟨x, cs, i, v, l, m, rfl, B, S⟩
    -- if state[3] == 0: return 0
    refine ⟨_, rfl, _, _, _, _, rfl, rfl, SqL.of S.h, rfl, rfl, _, rfl, ?_⟩
    refine ite2 (fun _ => ?_) (fun _ => ?_)
    · exact q 0 H1 (by omega) (by omega) B ⟨_, _, _, _, _, S⟩
    -- state[3] = state[3] - 1
    refine ⟨_, rfl, _, _, _, _, rfl, rfl, SqL.of S.h, rfl, _, _, rfl, rfl, _, rfl, _, _, _, _, rfl, rfl, S.h, rfl, ?_⟩
    have S1 : StAt K (upd H1 a (.lst (stL p i v (l - 1) m))) a p cs i v (l - 1) m := S.put _ rfl S.i0 S.v0 S.m0
    have B1 : But a H (upd H1 a (.lst (stL p i v (l - 1) m))) := B.trans But.upd
    refine ⟨_, rfl, _, _, _, _, rfl, rfl, SqL.of S1.h, rfl, rfl, _, rfl, ?_⟩
    refine ite2 (fun e1 => ?_) (fun e1 => ?_)
    · -- digit = int(state[2]) % many; state[2] = state[2] // many
      refine ⟨_, rfl, _, _, _, _, rfl, rfl, SqL.of S1.h, rfl, .inl ⟨_, rfl, _, rfl, _, _, rfl, rfl, (by show 0 < many; omega), ?_⟩⟩
      refine ⟨_, rfl, _, _, _, _, rfl, rfl, SqL.of S1.h, rfl, _, rfl, _, _, rfl, rfl, ⟨by omega, by omega⟩, _, rfl, _, _, _, _, rfl, rfl, S1.h, rfl, ?_⟩
      have v1 : 0 ≤ v / many := Int.ediv_nonneg S1.v0 (by omega)
      have hm1 := int_eq e1
      refine ⟨_, rfl, _, _, _, _, rfl, rfl, SqL.of upd_same, rfl, rfl, _, rfl, ?_⟩
      have d0 : 0 ≤ v % many := Int.emod_nonneg _ (by omega)
      have d1 : v % many < many := Int.emod_lt_of_pos _ (by omega)
      refine ite2 (fun _ => ?_) (fun _ => ?_)
      · refine ⟨_, rfl, _, _, _, _, rfl, rfl, upd_same, rfl, ?_⟩
        rw [upd_upd]
        exact ⟨_, rfl, q _ _ d0 d1 (B1.trans But.upd) ⟨cs, i, v / many, 0, m, S1.put _ rfl S1.i0 v1 (.inl hm1)⟩⟩
      · exact ⟨_, rfl, q _ _ d0 d1 (B1.trans But.upd) ⟨cs, i, v / many, l - 1, m, S1.put _ rfl S1.i0 v1 (.inl hm1)⟩⟩
    · have v2 : v < 2147483647 := S1.m0.resolve_left (int_ne e1)
      have v0 := S1.v0
      refine ⟨_, rfl, _, _, _, _, rfl, rfl, SqL.of S1.h, rfl, _, _, rfl, rfl, .inl ⟨by omega, by omega⟩, .inl ⟨_, rfl, _, _, rfl, rfl, (by show (0 : Int) < 2147483629; decide), _, rfl, _, _, _, _, rfl, rfl, S1.h, rfl, ?_⟩⟩
      refine ⟨_, rfl, _, _, _, _, rfl, rfl, SqL.of upd_same, rfl, _, _, rfl, rfl, ⟨by decide, by decide⟩, .inl ⟨_, rfl, _, rfl, _, _, rfl, rfl, (by show 0 < many; omega), ?_⟩⟩
      exact q _ _ (Int.emod_nonneg _ (by omega)) (Int.emod_lt_of_pos _ (by omega)) (B1.trans But.upd) ⟨cs, i, v * 69621 % 2147483629, l - 1, m, S1.put _ rfl S1.i0 (by omega) (.inr (by omega))⟩
end
end W8

set_option Elab.async false
set_option linter.all false
set_option maxRecDepth 100000
set_option maxHeartbeats 4000000
namespace W8
open PySem L2
abbrev sLetters : Stmt := top 63
theorem scLetters : FnScope ["state", "most", "small", "count", "at", "letters", "k"] ["state", "most"] (defScope sLetters) := ⟨rfl, rfl, rfl, by decide +kernel, rfl, by decide +kernel, by decide +kernel⟩
/-- the small letters -/
def small : List Nat := (List.range 26).map (· + 97)
theorem small_eq : ("abcdefghijklmnopqrstuvwxyz" : Str) = S small := by decide +kernel
theorem small_at {i : Int} (h0 : 0 ≤ i) (h : i < 26) : atI (S small).cps.toList i = some (i.toNat + 97) := by
  obtain ⟨c, _, hc, hat⟩ := at_S (w := small) h0 (by show i < 26; exact h)
  rw [hat, ← hc]
  unfold small
  rw [List.getElem?_map, List.getElem?_range (by omega)] <;> rfl
/-- letters in ascending order, the last one at most the place n -/
structure Alph (al : List Nat) (n : Nat) : Prop where
  ne : al ≠ []
  asc : al.Pairwise (· < ·)
  lo : ∀ c ∈ al, 97 ≤ c ∧ c ≤ n + 97
def spLetters (K : PySem.W.Frag) : Sp := fun vs H Q _ => ∃ (a : Addr) (m : Int), vs = [.ref a, .int m] ∧ 1 ≤ m ∧ m ≤ 3 ∧ ∃ p, StOk K H a p ∧ ∀ al H', Alph al (8 * al.length - 1) → (al.length : Int) ≤ m → But a H H' → StOk K H' a p → Q (.str (S al)) H'
section
variable {P : Program} {w : World} {K : PySem.W.Frag} {mg : Str → Option Value} {base : Heap}
theorem ok_letters {f : Addr} {fd : FuncData} (F : Fun K "_law_letters" "_law_letters" sLetters f fd) (tr : mg "range" = none) (D : Cal P w K mg base "_law_draw" 1 ["state", "many"] (spDraw K)) : FnOk P w K mg base CX0 2 f fd ["state", "most"] (spLetters K) := by
  refine F.ok scLetters (fun vs H Q E h => ?_) (fun cdv A outer s H vs Q E hr h => ?_)
  · obtain ⟨a, m, rfl, _⟩ := h
    rfl
  obtain ⟨a, most, rfl, m1, m2, p, S0, q⟩ := h
  refine ⟨_, pss_cons (ps_set (i := 2) scLetters.nd rfl (Or.inl rfl) pe_str)
    (pss_cons (ps_set (i := 3) scLetters.nd rfl (Or.inl rfl) (pe_op op_add pe_int (pcall D hr (pa_cons (pv 0) (pa_cons (pv 1) pa_nil)))))
    (pss_cons (ps_set (i := 4) scLetters.nd rfl (Or.inl rfl) (pcall D hr (pa_cons (pv 0) (pa_cons pe_int pa_nil))))
    (pss_cons (ps_set (i := 5) scLetters.nd rfl (Or.inl rfl) (pixS (pv 2) (pv 4)))
    (pss_cons (ps_for PassesOwn.never rfl (pi_range1 (by rfl) tr (pa_cons (pe_op op_sub (pv 3) pe_int) pa_nil)) (pg_name (i := 6) scLetters.nd rfl (Or.inl rfl))
      (pss_cons (ps_set (i := 4) scLetters.nd rfl (Or.inl rfl) (pe_op op_add (pe_op op_add (pv 4) pe_int) (pcall D hr (pa_cons (pv 0) (pa_cons pe_int pa_nil)))))
      (pss_one (ps_set (i := 5) scLetters.nd rfl (Or.inl rfl) (pe_op op_add_str (pv 5) (pixS (pv 2) (pv 4)))))))
    (pss_one (ps_ret (pv 5))))))), ?_⟩
  refine ⟨_, rfl, _, rfl, a, most, rfl, m1, by omega, _, S0, fun c H1 c0 c1 B1 S1 => ?_⟩
  refine ⟨_, _, rfl, rfl, _, rfl, a, 8, rfl, by omega, by omega, _, S1, fun t H2 t0 t1 B2 S2 => ?_⟩
  refine ⟨_, rfl, _, rfl, S small, t, _, by rw [small_eq], rfl, by decide, small_at t0 (by omega), ?_⟩
  refine ⟨_, rfl, _, _, rfl, rfl, _, rfl, by omega, by omega, ?_⟩
  have en : (1 + c - 1).toNat = c.toNat := by omega
  rw [en]
  refine for_range (lo := 0) (n := c.toNat) (fun i σ H' => ∃ (al : List Nat) (x : Nat) (kk : Option V), σ = [some (.ref a), some (.int most), some (.str (S small)), some (.int (1 + c)), some (.int (x : Int)), some (.str (S al)), kk] ∧
      al.length = i + 1 ∧ x + 1 ≤ 8 * (i + 1) ∧ al.Pairwise (· < ·) ∧ (∀ y ∈ al, 97 ≤ y ∧ y ≤ x + 97) ∧ But a H H' ∧ StOk K H' a p) ?_ ?_ ?_
  · refine ⟨[t.toNat + 97], t.toNat, none, ?_, rfl, by omega, List.pairwise_singleton _ _, fun y hy => ?_, B1.trans B2, S2⟩
    · rw [Int.toNat_of_nonneg t0, small_eq]
      rfl
    · rw [List.mem_singleton.mp hy]
      omega
  · rintro i σ H3 hi ⟨al, x, kk, rfl, l1, l2, pw, lo, B3, S3⟩
    refine ⟨_, rfl, _, _, rfl, rfl, _, rfl, a, 8, rfl, by omega, by omega, _, S3, fun u H4 u0 u1 B4 S4 => ?_⟩
    refine ⟨_, _, rfl, rfl, _, rfl, _, rfl, _, rfl, S small, _, _, rfl, rfl, by decide, small_at (i := (x : Int) + 1 + u) (by omega) (by omega), _, _, rfl, rfl, ?_, ?_⟩
    · rw [S_len]
      exact sz (by show al.length + 1 ≤ 100000; omega)
    refine ⟨al ++ [((x : Int) + 1 + u).toNat + 97], ((x : Int) + 1 + u).toNat, some (.int (0 + (i : Int))), ?_, by rw [List.length_append, l1] <;> rfl, by omega, ?_, fun y hy => ?_, B3.trans B4, S4⟩
    · rw [Int.toNat_of_nonneg (by omega), S_one, S_app]
      rfl
    · refine List.pairwise_append.mpr ⟨pw, List.pairwise_singleton _ _, fun y hy z hz => ?_⟩
      have := lo y hy
      rw [List.mem_singleton.mp hz]
      omega
    · rcases List.mem_append.mp hy with h | h
      · have := lo y h
        omega
      · rw [List.mem_singleton.mp h]
        omega
  · rintro σ H3 ⟨al, x, kk, rfl, l1, l2, pw, lo, B3, S3⟩
    refine ⟨_, rfl, q al H3 ⟨(fun e => by rw [e] at l1; cases l1), pw, fun y hy => ?_⟩ (by omega) B3 S3⟩
    have := lo y hy
    omega
end
end W8

set_option Elab.async false
set_option linter.all false
set_option maxRecDepth 100000
set_option maxHeartbeats 4000000
namespace W8
open PySem L2
structure AlphOk (al : List Nat) : Prop where
  n1 : 1 ≤ al.length
  n3 : al.length ≤ 3
  asc : al.Pairwise (· < ·)
  lo : ∀ c ∈ al, 97 ≤ c ∧ c ≤ 122
theorem mem_small {c : Nat} (h : 97 ≤ c ∧ c ≤ 122) : c ∈ small := by
  unfold small
  exact List.mem_map.mpr ⟨c - 97, List.mem_range.mpr (by omega), by omega⟩
abbrev sCheckL : Stmt := top 23
theorem scCheckL : FnScope ["letters", "last", "letter"] ["letters"] (defScope sCheckL) := ⟨rfl, rfl, rfl, by decide +kernel, rfl, by decide +kernel, by decide +kernel⟩
def spCheckL : Sp := fun vs H Q _ => ∃ al, vs = [.str (S al)] ∧ AlphOk al ∧ Q (.str (S al)) H
theorem single_lt (a b : Nat) : ([a] < [b]) ↔ a < b := by
  constructor
  · intro h
    cases h with
    | rel h => exact h
    | cons h => cases h
  · exact fun h => List.Lex.rel h
theorem walk_enumS {z : Str} : L2.Walk (Ites z) z.cps.size (fun _ => True) (fun i H v H' => ∃ T c, v = .ref T ∧ H T = none ∧ H' = upd H T (.tup [.int (i : Nat), .str ⟨#[c]⟩]) ∧ z.cps[i]? = some c) :=
  ⟨fun _ _ hi _ => hi, fun _ _ => Nat.le_refl _, fun _ _ _ _ _ _ y => y⟩
section
variable {P : Program} {w : World} {K : PySem.W.Frag} {mg : Str → Option Value} {base : Heap}
theorem ok_checkL {f : Addr} {fd : FuncData} {t1 t2 : Tok} (F : Fun K "check_letters" "check_letters" sCheckL f fd) (tl : mg "len" = none) (gM : mg "MOST_LETTERS" = some (.int 3 t1)) (gS : mg "SMALL_words" = some (.str "abcdefghijklmnopqrstuvwxyz" t2)) : FnOk P w K mg base CX0 1 f fd ["letters"] spCheckL := by
  refine F.ok scCheckL (fun vs H Q E h => ?_) (fun cdv A outer s H vs Q E hr h => ?_)
  · obtain ⟨al, rfl, _⟩ := h
    rfl
  obtain ⟨al, rfl, hA, q⟩ := h
  have n1 := hA.n1
  have n3 := hA.n3
  refine ⟨_, (pss_cons (ps_if (pt_not (pt_chain op_le op_le pe_int (pB1 call_len_str tl (pv 0)) (pe_glob (v := .int 3) rfl gM ⟨_, rfl⟩))) (pss_one ps_never) pss_nil)
    (pss_cons (ps_set (i := 1) scCheckL.nd rfl (Or.inl rfl) pe_str)
    (pss_cons (ps_for PassesOwn.never rfl (pi_str (pv 0)) (pg_name (i := 2) scCheckL.nd rfl (Or.inl rfl))
      (pss_cons (ps_if (PW.pt (pw_or (pt_cmpR op_notIn_sign (pv 2) (pe_glob (v := .str "abcdefghijklmnopqrstuvwxyz") rfl gS ⟨_, rfl⟩) rfl) (pw_or1 (pt_cmpR op_le_str (pv 2) (pv 1) (nomark _))))) (pss_one ps_never) pss_nil)
      (pss_one (ps_set (i := 1) scCheckL.nd rfl (Or.inl rfl) (pv 2)))))
    (pss_one (ps_ret (pv 0)))))), ?_⟩
  refine ⟨_, rfl, _, rfl, by rw [S_len]; exact sz (by omega), _, _, rfl, rfl, _, rfl, ?_⟩
  refine ite2 (fun _ => ?_) (fun e => absurd (decide_eq_true (by rw [S_len]; omega)) e)
  refine ⟨_, _, rfl, rfl, _, rfl, ?_⟩
  refine ite2 (fun e => ?_) (fun _ => ?_)
  · have e2 : decide (((S al).length : Int) ≤ 3) = true := decide_eq_true (by rw [S_len]; omega)
    rw [e2] at e
    cases e
  refine ⟨_, rfl, _, rfl, ?_⟩
  refine L2.for_it L2.walk_str (fun i σ H' => ∃ (l : List Nat) (x : Option V), σ = [some (.str (S al)), some (.str (S l)), x] ∧ H' = H ∧ ∀ y, al[i]? = some y → l < [y]) ⟨[], none, rfl, rfl, fun y _ => List.nil_lt_cons _ _⟩ (fun _ _ _ _ _ => trivial) ?_ ?_
  · rintro i x σ H1 H2 hi ⟨l, z, rfl, rfl, hl⟩ ⟨rfl, c, hc, rfl⟩
    have hc' : al[i]? = some c := by
      rw [← hc]
      show al[i]? = al.toArray[i]?
      simp
    refine ⟨_, rfl, c, S small, rfl, by rw [small_eq], _, rfl, ?_⟩
    have hm : c ∈ small := mem_small (hA.lo c (List.mem_of_getElem? hc'))
    refine ite2 (fun e => ?_) (fun _ => ?_)
    · have e2 : decide (c ∈ (S small).cps.toList) = true := decide_eq_true hm
      rw [e2] at e
      cases e
    refine ⟨_, rfl, _, rfl, S [c], S l, rfl, rfl, _, rfl, ?_⟩
    refine ite2 (fun e => ?_) (fun _ => ?_)
    · have e2 : decide ((S l).cps.toList < (S [c]).cps.toList) = true := decide_eq_true (hl c hc')
      rw [e2] at e
      cases e
    refine ⟨_, rfl, [c], _, rfl, rfl, fun y hy => (single_lt c y).mpr ?_⟩
    obtain ⟨h1, e1⟩ := List.getElem?_eq_some_iff.mp hc'
    obtain ⟨h2, e2⟩ := List.getElem?_eq_some_iff.mp hy
    have := List.pairwise_iff_getElem.mp hA.asc i (i + 1) h1 h2 (by omega)
    omega
  · rintro σ H1 ⟨l, z, rfl, rfl, hl⟩
    exact ⟨_, rfl, q⟩
end
end W8

set_option Elab.async false
set_option linter.all false
set_option maxRecDepth 100000
set_option maxHeartbeats 4000000
namespace W8
open PySem L2
/-! ### plain data and their kinds -/
def tyN : PyData → String
  | .none => "NoneType"
  | .bool _ => "bool"
  | .int _ => "int"
  | .str _ => "str"
  | .list _ => "list"
  | .tuple _ => "tuple"
  | .dict _ => "dict"
/-- lists nested less than n deep, none of them too long -/
def okE : Nat → PyData → Prop
  | 0, _ => False
  | n + 1, .list es => es.length ≤ 100000 ∧ ∀ x ∈ es, okE n x
  | n + 1, .tuple es => es.length ≤ 100000 ∧ ∀ x ∈ es, okE n x
  | _ + 1, _ => True
abbrev okAll (n : Nat) (es : List PyData) : Prop := es.length ≤ 100000 ∧ ∀ x ∈ es, okE n x
theorem dpAll_get {K : PySem.W.Frag} {H : Hp} : ∀ {vs : List V} {ds : List PyData} {i : Nat} {d : PyData}, DpAll K H vs ds → ds[i]? = some d → ∃ v, vs[i]? = some v ∧ Dp K H v d
  | _, _, _, _, .nil, h => by cases h
  | _, _, 0, _, .cons h _, e => by cases e; exact ⟨_, rfl, h⟩
  | v :: vs, d' :: ds, i + 1, d, .cons _ t, e => by
    have e' : ds[i]? = some d := by simpa using e
    obtain ⟨y, h1, h2⟩ := dpAll_get t e'
    exact ⟨y, by simpa using h1, h2⟩
theorem dpAll_length {K : PySem.W.Frag} {H : Hp} : ∀ {vs : List V} {ds : List PyData}, DpAll K H vs ds → vs.length = ds.length
  | _, _, .nil => rfl
  | _, _, .cons _ t => by rw [List.length_cons, List.length_cons, dpAll_length t]
theorem dp_ty {K : PySem.W.Frag} {H : Hp} {v : V} {d : PyData} (h : Dp K H v d) : TyX K H v (.type (tyN d)) := by
  cases h with
  | non => exact .base .non
  | bl b => exact .base (.bl b)
  | int i => exact .base (.int i)
  | str x => exact .base (.str x)
  | lst h _ =>
    rcases h with (h | ⟨o, h⟩) | ⟨o, its, n, hk, hc, _⟩
    · exact .base (.lst h)
    · exact .base (.frz h)
    · exact .kList hk hc
  | tup h _ =>
    rcases h with (h | ⟨o, h⟩) | ⟨o, its, n, hk, hc, _⟩
    · exact .base (.tup h)
    · exact .fTuple h
    · exact .kTuple hk hc
mutual
theorem dp_mono {K : PySem.W.Frag} {H H' : Hp} (s : Same H H') : ∀ {v : V} {d : PyData}, Dp K H v d → Dp K H' v d
  | _, _, .non => .non
  | _, _, .bl b => .bl b
  | _, _, .int i => .int i
  | _, _, .str x => .str x
  | _, _, .lst h t => .lst (s.seq h) (dpAll_mono s t)
  | _, _, .tup h t => .tup (by
      rcases h with (h | ⟨o, h⟩) | h
      · exact .inl (.inl (s _ _ h))
      · exact .inl (.inr ⟨o, s _ _ h⟩)
      · exact .inr h) (dpAll_mono s t)
theorem dpAll_mono {K : PySem.W.Frag} {H H' : Hp} (s : Same H H') : ∀ {vs : List V} {ds : List PyData}, DpAll K H vs ds → DpAll K H' vs ds
  | _, _, .nil => .nil
  | _, _, .cons h t => .cons (dp_mono s h) (dpAll_mono s t)
end
def isBoolD : PyData → Bool
  | .bool _ => true
  | _ => false
def isIntD : PyData → Bool
  | .bool _ => true
  | .int _ => true
  | _ => false
def isStrD : PyData → Bool
  | .str _ => true
  | _ => false
def isListD : PyData → Bool
  | .list _ => true
  | _ => false
def isTupD : PyData → Bool
  | .tuple _ => true
  | _ => false
def kNames : List String := ["NoneType", "bool", "int", "str", "list", "tuple", "dict"]
theorem tyN_mem (d : PyData) : tyN d ∈ kNames := by cases d <;> (unfold tyN kNames; simp)
theorem kit_tab {K : PySem.W.Frag} {T : String} {f : String → Bool} (h : (kNames.all fun t => kitB t T == some (f t)) = true) {t : String} (ht : t ∈ kNames) : PySem.W.kitOne K (.type t) (.type T) = some (f t) :=
  kit_ty (beq_iff_eq.mp (List.all_eq_true.mp h t ht))
theorem kit_bool {K : PySem.W.Frag} (d : PyData) : PySem.W.kitOne K (.type (tyN d)) (.type "bool") = some (isBoolD d) := by
  have e := kit_tab (K := K) (T := "bool") (f := fun t => t == "bool") (by decide +kernel) (tyN_mem d)
  rw [e]; cases d <;> rfl
theorem kit_int {K : PySem.W.Frag} (d : PyData) : PySem.W.kitOne K (.type (tyN d)) (.type "int") = some (isIntD d) := by
  have e := kit_tab (K := K) (T := "int") (f := fun t => t == "int" || t == "bool") (by decide +kernel) (tyN_mem d)
  rw [e]; cases d <;> rfl
theorem kit_str {K : PySem.W.Frag} (d : PyData) : PySem.W.kitOne K (.type (tyN d)) (.type "str") = some (isStrD d) := by
  have e := kit_tab (K := K) (T := "str") (f := fun t => t == "str") (by decide +kernel) (tyN_mem d)
  rw [e]; cases d <;> rfl
theorem kit_list {K : PySem.W.Frag} (d : PyData) : PySem.W.kitOne K (.type (tyN d)) (.type "list") = some (isListD d) := by
  have e := kit_tab (K := K) (T := "list") (f := fun t => t == "list") (by decide +kernel) (tyN_mem d)
  rw [e]; cases d <;> rfl
theorem kit_tuple {K : PySem.W.Frag} (d : PyData) : PySem.W.kitOne K (.type (tyN d)) (.type "tuple") = some (isTupD d) := by
  have e := kit_tab (K := K) (T := "tuple") (f := fun t => t == "tuple") (by decide +kernel) (tyN_mem d)
  rw [e]; cases d <;> rfl
theorem isi_of {K : PySem.W.Frag} {H : Hp} {x : V} {d : PyData} {T : String} {b : Bool} {Q : VK} (h : Dp K H x d) (k : PySem.W.kitOne K (.type (tyN d)) (.type T) = some b) (q : Q (.bl b) H) : rIsi K [x, .ty T] H Q :=
  ⟨x, .ty T, _, _, _, rfl, .ty T, dp_ty h, k, q⟩
abbrev sSame : Stmt := top 62
theorem scSame : FnScope ["actual", "expected", "k"] ["actual", "expected"] (defScope sSame) := ⟨rfl, rfl, rfl, by decide +kernel, rfl, by decide +kernel, by decide +kernel⟩
def spSame (K : PySem.W.Frag) (n : Nat) : Sp := fun vs H Q _ => ∃ (x y : V) (d e : PyData), vs = [x, y] ∧ Dp K H x d ∧ Dp K H y e ∧ okE n e ∧ ∀ (b : Bool) H', Same H H' → (b = true ↔ d = e) → Q (.bl b) H'
structure SameT (mg : Str → Option Value) : Prop where
  isinstance : mg "isinstance" = none
  bool : mg "bool" = none
  int : mg "int" = none
  str : mg "str" = none
  list : mg "list" = none
  tuple : mg "tuple" = none
  len : mg "len" = none
  range : mg "range" = none
def SeqF (K : PySem.W.Frag) (H : Hp) (x : V) (xs : List V) : Prop := (∃ a, x = .ref a ∧ SqL K H a xs) ∨ (∃ a, x = .ref a ∧ SqT K H a xs)
theorem SeqF.ix {K : PySem.W.Frag} {H : Hp} {x v : V} {xs : List V} {i : Int} {Q : VK} (s : SeqF K H x xs) (h : atI xs i = some v) (q : Q v H) : rIx K x (.int i) H Q := by
  rcases s with ⟨a, rfl, s⟩ | ⟨a, rfl, s⟩
  · exact .inl ⟨a, xs, i, v, rfl, rfl, s, h, q⟩
  · exact .inr (.inl ⟨a, xs, i, v, rfl, rfl, s, h, q⟩)
theorem SeqF.mono {K : PySem.W.Frag} {H H' : Hp} {x : V} {xs : List V} (m : Same H H') (s : SeqF K H x xs) : SeqF K H' x xs := by
  rcases s with ⟨a, rfl, s⟩ | ⟨a, rfl, (h | ⟨o, h⟩) | h⟩
  · exact .inl ⟨a, rfl, m.seq s⟩
  · exact .inr ⟨a, rfl, .inl (.inl (m _ _ h))⟩
  · exact .inr ⟨a, rfl, .inl (.inr ⟨o, m _ _ h⟩)⟩
  · exact .inr ⟨a, rfl, .inr h⟩
theorem SeqF.len {K : PySem.W.Frag} {H : Hp} {x : V} {xs : List V} (s : SeqF K H x xs) : ∃ p, x = .ref p ∧ (SqL K H p xs ∨ SqT K H p xs) := by
  rcases s with ⟨a, rfl, s⟩ | ⟨a, rfl, s⟩
  · exact ⟨a, rfl, .inl s⟩
  · exact ⟨a, rfl, .inr s⟩
section
variable {P : Program} {w : World} {K : PySem.W.Frag} {mg : Str → Option Value} {base : Heap}
theorem same0 {f : Addr} {fd : FuncData} : FnOk P w K mg base CX0 0 f fd ["actual", "expected"] (spSame K 0) := by
  have no : ∀ vs H Q E, ¬ spSame K 0 vs H Q E := fun vs H Q E h => by
    obtain ⟨x, y, d, e, _, _, _, h, _⟩ := h
    exact h
  exact ⟨fun vs H Q E h => absurd h (no vs H Q E), fun A outer s H args us vs Q E _ _ _ _ h => absurd h (no vs H Q E)⟩
theorem sameS {n : Nat} {f : Addr} {fd : FuncData} (F : Fun K "_law_same" "_law_same" sSame f fd) (T : SameT mg) (c_law_same : Cal P w K mg base "_law_same" n ["actual", "expected"] (spSame K n)) : FnOk P w K mg base CX0 (n + 1) f fd ["actual", "expected"] (spSame K (n + 1)) := by
  refine F.ok scSame (fun vs H Q E h => ?_) (fun cdv A outer s H vs Q E hr h => ?_)
  · obtain ⟨x, y, d, e, rfl, _⟩ := h
    rfl
  obtain ⟨x, y, d, e, rfl, hx, hy, hn, q⟩ := h
  refine ⟨_, (pss_cons (ps_if (pt_cmpR op_isN (pv 1) pe_non (nomark _)) (pss_one (ps_ret (pe_cmpR op_isN (pv 0) pe_non (nomark _)))) pss_nil)
    (pss_cons (ps_if (pt_val (pe_callB call_isi (by rfl) T.isinstance (by decide +kernel) (pa_cons (pv 1) (pa_cons (pe_bltn (v := .ty "bool") (by rfl) T.bool (by decide +kernel) rfl) pa_nil))))
      (pss_one (ps_ret (pe_and (pe_callB call_isi (by rfl) T.isinstance (by decide +kernel) (pa_cons (pv 0) (pa_cons (pe_bltn (v := .ty "bool") (by rfl) T.bool (by decide +kernel) rfl) pa_nil))) (pe_one (pe_cmpR op_eq (pv 0) (pv 1) (nomark _)))))) pss_nil)
    (pss_cons (ps_if (pt_val (pe_callB call_isi (by rfl) T.isinstance (by decide +kernel) (pa_cons (pv 1) (pa_cons (pe_bltn (v := .ty "int") (by rfl) T.int (by decide +kernel) rfl) pa_nil))))
      (pss_one (ps_ret (pe_and (pe_callB call_isi (by rfl) T.isinstance (by decide +kernel) (pa_cons (pv 0) (pa_cons (pe_bltn (v := .ty "int") (by rfl) T.int (by decide +kernel) rfl) pa_nil))) (pe_and (pe_not (pe_callB call_isi (by rfl) T.isinstance (by decide +kernel) (pa_cons (pv 0) (pa_cons (pe_bltn (v := .ty "bool") (by rfl) T.bool (by decide +kernel) rfl) pa_nil)))) (pe_one (pe_cmpR op_eq (pv 0) (pv 1) (nomark _))))))) pss_nil)
    (pss_cons (ps_if (pt_val (pe_callB call_isi (by rfl) T.isinstance (by decide +kernel) (pa_cons (pv 1) (pa_cons (pe_bltn (v := .ty "str") (by rfl) T.str (by decide +kernel) rfl) pa_nil))))
      (pss_one (ps_ret (pe_and (pe_callB call_isi (by rfl) T.isinstance (by decide +kernel) (pa_cons (pv 0) (pa_cons (pe_bltn (v := .ty "str") (by rfl) T.str (by decide +kernel) rfl) pa_nil))) (pe_one (pe_cmpR op_eq (pv 0) (pv 1) (nomark _)))))) pss_nil)
    (C8.pss_cut (ps_if (PW.pt (pw_and (pt_val (pe_callB call_isi (by rfl) T.isinstance (by decide +kernel) (pa_cons (pv 1) (pa_cons (pe_bltn (v := .ty "list") (by rfl) T.list (by decide +kernel) rfl) pa_nil)))) (pw_and1 (pt_not (pt_val (pe_callB call_isi (by rfl) T.isinstance (by decide +kernel) (pa_cons (pv 0) (pa_cons (pe_bltn (v := .ty "list") (by rfl) T.list (by decide +kernel) rfl) pa_nil))))))))
      (pss_one (ps_ret pe_bl)) pss_nil)
    (C8.pss_cut (ps_if (PW.pt (pw_and (pt_val (pe_callB call_isi (by rfl) T.isinstance (by decide +kernel) (pa_cons (pv 1) (pa_cons (pe_bltn (v := .ty "tuple") (by rfl) T.tuple (by decide +kernel) rfl) pa_nil)))) (pw_and1 (pt_not (pt_val (pe_callB call_isi (by rfl) T.isinstance (by decide +kernel) (pa_cons (pv 0) (pa_cons (pe_bltn (v := .ty "tuple") (by rfl) T.tuple (by decide +kernel) rfl) pa_nil))))))))
      (pss_one (ps_ret pe_bl)) pss_nil)
    (pss_cons (ps_if (pt_cmpR op_ne (pB1 call_len_seq T.len (pv 0)) (pB1 call_len_seq T.len (pv 1)) (nomark _)) (pss_one (ps_ret pe_bl)) pss_nil)
    (pss_cons (ps_for PassesOwn.never rfl (pi_range1 (by rfl) T.range (pa_cons (pB1 call_len_seq T.len (pv 1)) pa_nil)) (pg_name (i := 2) scSame.nd rfl (Or.inl rfl))
      (pss_one (ps_if (pt_not (pt_val (pcall c_law_same hr (pa_cons (pe_ix ix_seq (pv 0) (pv 2) (fun _ _ => rfl)) (pa_cons (pe_ix ix_seq (pv 1) (pv 2) (fun _ _ => rfl)) pa_nil)) (hk := Nat.le_refl _)))) (pss_one (ps_ret pe_bl)) pss_nil)))
    (pss_one (ps_ret pe_bl)))))))))), ?_⟩
  -- if expected is None
  refine ⟨_, rfl, rfl, _, rfl, ?_⟩
  refine ite2 (fun c => ?_) (fun c0 => ?_)
  · have ey : y = .non := of_decide_eq_true c
    subst ey
    cases hy
    refine ⟨_, rfl, rfl, q _ H (Same.refl H) ?_⟩
    cases hx <;> simp
  -- isinstance(expected, bool)
  refine ⟨_, rfl, _, _, _, _, _, rfl, .ty _, dp_ty hy, kit_bool e, _, rfl, ?_⟩
  refine ite2 (fun c => ?_) (fun c1 => ?_)
  · cases hy <;> first | (cases c; done) | skip
    refine ⟨_, rfl, _, _, _, _, _, rfl, .ty _, dp_ty hx, kit_bool d, _, rfl, ?_⟩
    refine ite2 (fun c2 => ?_) (fun c2 => ?_)
    · cases hx <;> first | (cases c2; done) | skip
      refine ⟨_, rfl, _, rfl, rfl, q _ H (Same.refl H) ?_⟩
      rw [decide_eq_true_eq]
      constructor
      · intro h; injection h with h; rw [h]
      · intro h; injection h with h; rw [h]
    · refine q _ H (Same.refl H) ⟨fun z => (nomatch z), fun z => absurd (by rw [z]; rfl) c2⟩
  -- isinstance(expected, int)
  refine ⟨_, rfl, _, _, _, _, _, rfl, .ty _, dp_ty hy, kit_int e, _, rfl, ?_⟩
  refine ite2 (fun c => ?_) (fun c3 => ?_)
  · cases hy <;> first | (cases c; done) | (exact absurd rfl c1) | skip
    refine ⟨_, rfl, _, _, _, _, _, rfl, .ty _, dp_ty hx, kit_int d, _, rfl, ?_⟩
    refine ite2 (fun c2 => ?_) (fun c2 => ?_)
    · refine ⟨_, rfl, _, _, _, _, _, rfl, .ty _, dp_ty hx, kit_bool d, _, rfl, _, rfl, ?_⟩
      refine ite2 (fun c4 => ?_) (fun c4 => ?_)
      · cases hx <;> first | (cases c2; done) | (cases c4; done) | skip
        refine ⟨_, rfl, _, rfl, rfl, q _ H (Same.refl H) ?_⟩
        rw [decide_eq_true_eq]
        constructor
        · intro h; injection h with h; rw [h]
        · intro h; injection h with h; rw [h]
      · refine q _ H (Same.refl H) ⟨fun z => (nomatch z), fun z => absurd (by rw [z]; rfl) c4⟩
    · refine q _ H (Same.refl H) ⟨fun z => (nomatch z), fun z => absurd (by rw [z]; rfl) c2⟩
  -- isinstance(expected, str)
  refine ⟨_, rfl, _, _, _, _, _, rfl, .ty _, dp_ty hy, kit_str e, _, rfl, ?_⟩
  refine ite2 (fun c => ?_) (fun c5 => ?_)
  · cases hy <;> first | (cases c; done) | skip
    refine ⟨_, rfl, _, _, _, _, _, rfl, .ty _, dp_ty hx, kit_str d, _, rfl, ?_⟩
    refine ite2 (fun c2 => ?_) (fun c2 => ?_)
    · cases hx <;> first | (cases c2; done) | skip
      refine ⟨_, rfl, _, rfl, rfl, q _ H (Same.refl H) ?_⟩
      rw [decide_eq_true_eq]
      constructor
      · intro h; injection h with h; rw [h]
      · intro h; injection h with h; rw [h]
    · refine q _ H (Same.refl H) ⟨fun z => (nomatch z), fun z => absurd (by rw [z]; rfl) c2⟩
  -- lists and tuples
  refine ⟨fun σ' H' => σ' = [some x, some y, none] ∧ H' = H ∧ (isListD e = true → isListD d = true), ?_, ?_⟩
  · refine ⟨_, rfl, _, _, _, _, _, rfl, .ty _, dp_ty hy, kit_list e, _, rfl, ?_⟩
    refine ite2 (fun c6 => ?_) (fun c6 => ?_)
    · refine ⟨_, rfl, _, _, _, _, _, rfl, .ty _, dp_ty hx, kit_list d, _, rfl, ?_⟩
      refine ite2 (fun c7 => ?_) (fun c7 => ?_)
      · refine q _ H (Same.refl H) ⟨fun z => (nomatch z), fun z => ?_⟩
        rw [z, c6] at c7
        cases c7
      · refine ⟨rfl, rfl, fun _ => ?_⟩
        cases h : isListD d with
        | true => rfl
        | false => exact absurd (by rw [h]; rfl) c7
    · refine ite2 (fun z => (nomatch z)) (fun _ => ?_)
      exact ⟨rfl, rfl, fun z => absurd z c6⟩
  rintro σ' H' ⟨rfl, rfl, hl⟩
  refine ⟨fun σ' H'' => σ' = [some x, some y, none] ∧ H'' = H' ∧ (isTupD e = true → isTupD d = true), ?_, ?_⟩
  · refine ⟨_, rfl, _, _, _, _, _, rfl, .ty _, dp_ty hy, kit_tuple e, _, rfl, ?_⟩
    refine ite2 (fun c6 => ?_) (fun c6 => ?_)
    · refine ⟨_, rfl, _, _, _, _, _, rfl, .ty _, dp_ty hx, kit_tuple d, _, rfl, ?_⟩
      refine ite2 (fun c7 => ?_) (fun c7 => ?_)
      · refine q _ H' (Same.refl H') ⟨fun z => (nomatch z), fun z => ?_⟩
        rw [z, c6] at c7
        cases c7
      · refine ⟨rfl, rfl, fun _ => ?_⟩
        cases h : isTupD d with
        | true => rfl
        | false => exact absurd (by rw [h]; rfl) c7
    · refine ite2 (fun z => (nomatch z)) (fun _ => ?_)
      exact ⟨rfl, rfl, fun z => absurd z c6⟩
  rintro σ' H'' ⟨rfl, rfl, ht⟩
  obtain ⟨xs, ys, ds, es, sx, sy, ax, ay, hde, hok⟩ : ∃ (xs ys : List V) (ds es : List PyData), SeqF K H'' x xs ∧ SeqF K H'' y ys ∧ DpAll K H'' xs ds ∧ DpAll K H'' ys es ∧ (ds = es ↔ d = e) ∧ okAll n es := by
    cases hy with
    | non => exact absurd (decide_eq_true rfl) c0
    | bl b => exact absurd rfl c1
    | int i => exact absurd rfl c3
    | str z => exact absurd rfl c5
    | lst h1 h2 =>
      have h := hl rfl
      cases hx <;> first | (cases h; done) | skip
      rename_i h3 h4
      exact ⟨_, _, _, _, .inl ⟨_, rfl, h3⟩, .inl ⟨_, rfl, h1⟩, h4, h2, ⟨fun z => by rw [z], fun z => by injection z⟩, hn⟩
    | tup h1 h2 =>
      have h := ht rfl
      cases hx <;> first | (cases h; done) | skip
      rename_i h3 h4
      exact ⟨_, _, _, _, .inr ⟨_, rfl, h3⟩, .inr ⟨_, rfl, h1⟩, h4, h2, ⟨fun z => by rw [z], fun z => by injection z⟩, hn⟩
  have lx := dpAll_length ax
  have ly := dpAll_length ay
  obtain ⟨p1, e1, l1⟩ := sx.len
  obtain ⟨p2, e2, l2⟩ := sy.len
  refine ⟨_, rfl, p1, xs, by rw [e1], l1, _, rfl, p2, ys, by rw [e2], l2, rfl, _, rfl, ?_⟩
  refine ite2 (fun c => ?_) (fun c => ?_)
  · refine q _ H'' (Same.refl H'') ⟨fun z => (nomatch z), fun z => ?_⟩
    have hl2 : xs.length = ys.length := by rw [lx, ly, hde.mpr z]
    rw [hl2, decide_eq_true rfl] at c
    cases c
  have hlen : xs.length = ys.length := by
    by_cases h : xs.length = ys.length
    · exact h
    · refine absurd ?_ c
      have : decide (V.int (xs.length : Int) = V.int (ys.length : Int)) = false := decide_eq_false (fun z => h (by injection z with z; omega))
      rw [this]
      rfl
  have hbig := hok.1
  refine ⟨_, rfl, p2, ys, by rw [e2], l2, _, rfl, by omega, by omega, ?_⟩
  have en : ((ys.length : Int)).toNat = es.length := by omega
  rw [en]
  refine for_range (lo := 0) (n := es.length) (fun i σ H' => ∃ k : Option V, σ = [some x, some y, k] ∧ Same H'' H' ∧ ∀ j, j < i → ds[j]? = es[j]?) ⟨none, rfl, Same.refl _, fun j h => absurd h (by omega)⟩ ?_ ?_
  · rintro i σ H1 hi ⟨k, rfl, s1, hall⟩
    have hid : ds[i]? = some (ds[i]'(by omega)) := List.getElem?_eq_getElem (by omega)
    have hie : es[i]? = some es[i] := List.getElem?_eq_getElem hi
    obtain ⟨v1, hv1, hd1⟩ := dpAll_get ax hid
    obtain ⟨v2, hv2, hd2⟩ := dpAll_get ay hie
    have a1 : atI xs (0 + (i : Int)) = some v1 := by rw [Int.zero_add]; exact atI_nat hv1
    have a2 : atI ys (0 + (i : Int)) = some v2 := by rw [Int.zero_add]; exact atI_nat hv2
    refine ⟨_, rfl, _, rfl, (sx.mono s1).ix a1 ⟨_, rfl, _, rfl, (sy.mono s1).ix a2 ⟨v1, v2, ds[i], es[i], rfl, dp_mono s1 hd1, dp_mono s1 hd2, hok.2 _ (List.getElem_mem hi), fun b H2 s2 hb => ⟨_, rfl, ?_⟩⟩⟩⟩
    refine ite2 (fun c => ?_) (fun c => ?_)
    · refine q _ H2 (s1.trans s2) ⟨fun z => (nomatch z), fun z => ?_⟩
      have : b = true := hb.mpr (by
        have hz := hde.mpr z
        have : ds[i]? = es[i]? := by rw [hz]
        rw [hid, hie] at this
        exact Option.some.inj this)
      rw [this] at c
      cases c
    · have hbt : b = true := by
        cases b with
        | true => rfl
        | false => exact absurd rfl c
      refine ⟨_, rfl, s1.trans s2, fun j hj => ?_⟩
      by_cases e : j = i
      · rw [e, hid, hie, hb.mp hbt]
      · exact hall j (by omega)
  · rintro σ H1 ⟨k, rfl, s1, hall⟩
    refine q true H1 s1 ⟨fun _ => hde.mp (List.ext_getElem? fun j => ?_), fun _ => rfl⟩
    by_cases hj : j < es.length
    · exact hall j hj
    · rw [List.getElem?_eq_none (by omega), List.getElem?_eq_none (by omega)]
end
end W8

set_option Elab.async false
set_option linter.all false
set_option maxRecDepth 100000
set_option maxHeartbeats 4000000
/-! an own exception whose __init__ says super().__init__(text) and stores one field -/
namespace PySem
namespace XM
open PySem.W PySem.Calls PyProof.Rows
def xA (f : Str) (p1 p2 : Pos) : Arguments := { posonlyargs := [], args := [{ arg := "self", annotation := none, pos := p1 }, { arg := f, annotation := none, pos := p2 }], vararg := none, kwonlyargs := [], kw_defaults := [], kwarg := none, defaults := [] }
def xB (f msg : Str) (j : Nat) (p0 p1 p2 p3 p4 p5 q1 q2 q3 q4 : Pos) : List Stmt := [.Expr (.Call (.Attribute (.Call (.Name "super" p0) [] [] p1) "__init__" p2) [.Constant (.str msg) j p3] [] p4) p5, .Assign [.Attribute (.Name "self" q1) f q2] (.Name f q3) q4]
def xS (f : Str) : Scope := { kind := .function, names := [(PySem.Str.ofString "self", .local), (f, .local), (PySem.Str.ofString "__class__", .free), (PySem.Str.ofString "super", .globalImplicit)], isGenerator := false, isCoroutine := false, more := [] }
/-- what is written of such a class: C, D the class that has the __init__ fI -/
structure XmC (prog : Program) (K : Frag) (C D fI : Addr) (f : Str) : Prop where
  cls : ∃ nm q N bs bm sn sub ab col dd k0 k1 k2 k3 k5, K.lookup C = some (excClassObj nm q C N bs bm true sn sub ab col dd k0 k1 k2 k3 k5 "ValueError.__new__") ∧ HandSPX.refsVE bm = true
  sa : findIn K (.ref C) "__setattr__" = some (some (.builtin "object.__setattr__"))
  noF : findIn K (.ref C) f = some none
  iC : findIn K (.ref C) "__init__" = some (some (.ref fI))
  tI : typeIn K (.ref fI) = some (.type "function")
  kC : keepIn K (.ref C) = true
  exC : subIn K (.ref C) (.type "BaseException") = some true
  vC : subIn K (.ref C) (.type "ValueError") = some true
  tyC : typeIn K (.ref C) = some (.type "type")
  fn : ∃ (cc cda : Addr) (oc doc pm ct : Value) (od an : Option Addr) (osl : Array (Option Value)) (qual msg : Str) (j : Nat) (p0 p1 p2 p3 p4 p5 q1 q2 q3 q4 r1 r2 : Pos),
    K.lookup fI = some ⟨oc, od, .func (ksFn "__init__" qual (xA f r1 r2) (xB f msg j p0 p1 p2 p3 p4 p5 q1 q2 q3 q4) (xS f) .none .none doc pm an (.ref cda) ct cc), osl⟩ ∧ codeIn K (.ref cda) qual = true ∧ (p2.endLine == p4.line) = true ∧
      (∃ ccl cdd vs ccs file tf, K.lookup cda = some ⟨ccl, cdd, .fields vs, ccs⟩ ∧ vs[2]? = some (.str file tf) ∧ ((prog.main.file : Str) == file) = true) ∧
      (∃ cl cld csl, K.lookup cc = some ⟨cl, cld, .cell (some (.ref D)), csl⟩)
  nf : f = "index" ∨ f = "state" ∨ f = "limit" ∨ f = "name" ∨ f = "names" ∨ f = "line" ∨ f = "row"
  bd : ∀ (qual msg : Str) (j : Nat) (p0 p1 p2 p3 p4 p5 q1 q2 q3 q4 r1 r2 : Pos) (doc pm ct : Value) (an : Option Addr) (cc cda : Addr) (s : Shared) (u v : Value), BindsTo s (ksFn "__init__" qual (xA f r1 r2) (xB f msg j p0 p1 p2 p3 p4 p5 q1 q2 q3 q4) (xS f) .none .none doc pm an (.ref cda) ct cc) ⟨[u, v], []⟩ [("self", u), (f, v)]
  clD : ∃ cdD, clsIn K D = some cdD
  subD : mroIn K C (.ref D) = some true
  sup : ks_superIn K C D "__init__" = some (some (.builtin "ValueError.__init__"))
  thi : nsIn K cStatics "thirdparty.any" = some none
  top : (prog.main.scope.names.lookup ("super" : Str)).isSome = false
theorem eval_meth {o : Expr} {name : Str} {apos pos : Pos} {e : Expr} {env : Env} (hp : (apos.endLine == pos.line) = true) (hs : starEach [e] env = [(false, eval e env)] := by rfl) :
    eval (.Call (.Attribute o name apos) [e] [] pos) env = (do
      let ov ← attributeBase o name env (eval o env)
      standAt apos.atName
      let (f, first) ← holding [ov] (getMethod ov name (do return (← importBound o env).getD true))
      callWith pos f first (backTo pos (starEach [e] env)) []) := by
  have hc : ∀ a k, (!methodCallForm 1 a k || apos.endLine == pos.line) = true := fun a k => by rw [hp]; simp
  show (do
    let ov ← attributeBase o name env (eval o env)
    standAt apos.atName
    methodCall o name apos pos env ov 1 (backTo pos (starEach [e] env)) []) = _
  unfold methodCall methodCallPos
  simp only [hc, if_true]
  rw [hs]
  rfl
theorem cls_at {K : Frag} {h : Heap} {D : Addr} {cd : ClassData} (X : K.In h) (hD : clsIn K D = some cd) : ∃ oD, h.get? D = some oD ∧ oD.data = .cls cd := by
  unfold clsIn at hD
  split at hD
  · rename_i c d cd' sl ho
    cases hD
    exact ⟨_, X _ _ ho, rfl⟩
  · cases hD
theorem spliced1 {M : Model} {A : Around} {E : Value → Shared → Prop} {s : Shared} {t : Sem Value} {Q : List Value → Shared → Prop} {pos : Pos} (h : wpAny M A t (fun v s1 => Q [v] s1) E s) : wpAny M A (spliced (backTo pos [(false, t)])) Q E s := by
  refine Calls.spliced_cons (wpAny_mono h (fun v s1 q => ?_) fun _ _ x => x)
  exact Calls.spliced_nil q
theorem kept_but {K : Frag} {h h' : Heap} {x : Addr} (X : K.In h) (hx : K.lookup x = none) (k : ∀ b o, b ≠ x → h.get? b = some o → h'.get? b = some o) : K.In h' := fun a o e =>
  k a o (fun z => by rw [z, hx] at e; cases e) (X a o e)
theorem ldX {M : Model} {A : Around} {E : Value → Shared → Prop} {s : Shared} {env : Env} {m : Str → Option Value} {x : Str} {pos : Pos} {v : Value} {Q : Value → Shared → Prop} (hn : s.heap.Ns env.locals m) (hv : m x = some v) (h : Q v s)
    (hk : env.scope.kind = .function := by rfl) (hl : env.kindOf x = some .local := by rfl) (hd : (x == ("__debug__" : Str)) = false := by decide) : wpAny M A (eval (.Name x pos) env) Q E s := wpAny_Name (wpAny_loadName_local hk hl hn hv h) hd
theorem str_eval {M : Model} {A : Around} {E : Value → Shared → Prop} {s : Shared} {env : Env} {m : Str} {j : Nat} {p : Pos} {Q : Value → Shared → Prop} (h : ∀ t tk, Q (.str m t) { s with toks := tk }) : wpAny M A (eval (.Constant (.str m) j p) env) Q E s := by
  exact wpAny_Constant_str (h _ _)
section
variable {prog : Program} {w : World} {A : Around} {R : Result → Shared → Prop} {s : Shared} {K : Frag} {mg mb : Str → Option Value} {C D fI : Addr} {f : Str}
theorem call_bv {u e t0 : Addr} {nm q : Str} {N : Addr} {bs bm : List Value} {hdct : Bool} {sn : List Str} {sub : List Value} {ab : Bool} {col : Option Bool} {dd : Option Addr} {k0 k1 k2 k3 k5 : Option Value} {rest : List Value} {Q : Value → Shared → Prop} {E : Value → Shared → Prop} {h : Heap} {g : Array GenState} {d : Drawn} {t : Nat} {os : OsState}
    (hC : h.get? C = some (excClassObj nm q C N bs bm hdct sn sub ab col dd k0 k1 k2 k3 k5 "ValueError.__new__")) (he : h.get? e = some (HandSPX.excO C t0)) (hu : h.get? u = some (kxs_mw "ValueError.__init__" e)) (hrest : rest.length ≤ sizeLine)
    (hq : ∀ h' t1, (∀ b o, b ≠ e → h.get? b = some o → h'.get? b = some o) → h'.get? e = some (HandSPX.excO C t1) → Q .none ⟨h', g, d, t, os⟩) :
    wpAny (model prog w) A (call (.ref u) rest) Q E ⟨h, g, d, t, os⟩ := by
  refine wpAny_call (codeAny_of_tree ?_)
  show wpAny _ A.in1 (callAny (.ref u) ⟨rest, []⟩) _ _ _
  simp only [callAny]
  refine wpAny_bind (wpAny_load hu ?_)
  simp only [kxs_mw, show (Value.type "method-wrapper" == Value.type "method" || Value.type "method-wrapper" == Value.type "builtin_function_or_method" || Value.type "method-wrapper" == Value.type "method-wrapper") = true by decide, if_true]
  refine KFB.if_so (by decide) ?_
  refine wpAny_bind (check_bound_init F.excBase_ValueError.toExcCallFacts hC he rfl ?_)
  refine wpAny_bind (wpAny_pure (wpAny_pure ?_))
  refine ⟨plainId_quiet F.excBase_ValueError.init.plain _, codeAny_builtin F.excBase_ValueError.initEntry ?_⟩
  exact exc_init_tree (cls := .ref C) (t0 := t0) (dv := none) (c2 := .none) (c3 := .none) (b4 := .bool false) he hrest fun h' k e' _ => hq h' _ k e'
/-- what __init__ leaves of a fresh exception at x -/
structure InitEnd (h h' : Heap) (x C dx t1 : Addr) (f : Str) (v : Value) : Prop where
  keep : ∀ b o, b ≠ x → h.get? b = some o → h'.get? b = some o
  obj : h'.get? x = some { cls := .ref C, dict := some dx, data := .fields #[.ref t1, .none, .none, .none, .bool false, .none] }
  dbig : h.objs.size ≤ dx
  dne : dx ≠ x
  ns : h'.Ns1 dx (fun y => if y = f then some v else none)
theorem own_init (T : XmC prog K C D fI f) {x t0 : Addr} {v : Value} (X : K.In s.heap) (hlim : s.heap.NoLimit) (hg : s.heap.Ns mainGlobals mg) (hb : s.heap.Ns builtinsNs mb) (hms : mg "super" = none) (hbs : mb "super" = bootBuiltins "super")
    (hx : s.heap.get? x = some (HandSPX.excO C t0)) (hnx : K.lookup x = none) (hroom : A.depth < recursionLimit)
    (hq : ∀ h' tk dx t1, InitEnd s.heap h' x C dx t1 f v → R (.ok (.ret .none)) { s with heap := h', toks := tk }) :
    codeAny (model prog w) A (.call (.ref fI) ⟨[.ref x, v], []⟩) R s := by
  obtain ⟨cc, cda, oc, doc, pm, ct, od, an, osl, qual, msg, j, p0, p1, p2, p3, p4, p5, q1, q2, q3, q4, r1, r2, hf, hcd, hpos, ⟨ccl, cdd, vs, ccs, file, tf, hcode, hvs, hfile⟩, ⟨cl, cld, csl, hcc⟩⟩ := T.fn
  obtain ⟨nm, q, N, bs, bm, sn, sub, ab, col, dd, k0, k1, k2, k3, k5, hC, hbm⟩ := T.cls
  obtain ⟨cdD, hD⟩ := T.clD
  have nf := T.nf
  have hcl : clsIn K C = some { name := nm, bases := bs, mro := .ref C :: bm, ns := N, qualname := q, hasDict := true, slotNames := sn, subclasses := sub, abstract := ab, collection := col, hasDel := false } := by unfold clsIn; rw [hC] <;> rfl
  rcases nf with rfl | rfl | rfl | rfl | rfl | rfl | rfl
  all_goals
    refine ks_codeAny_call_defAt (binds := [("self", .ref x), (_, v)]) hroom (X _ _ hf) rfl hlim (codeRec_of X hcd) rfl (T.bd qual msg j p0 p1 p2 p3 p4 p5 q1 q2 q3 q4 r1 r2 doc pm ct an cc cda s (.ref x) v) (by show ∀ y ∈ (xS _).names, y.2 ≠ .cell; decide) (fun y hy => ?_) (fun h₁ hns hk₁ => ?_)
    · rcases List.mem_cons.mp hy with rfl | hy
      · rfl
      · rw [List.mem_singleton.mp hy]
        rfl
    have X₁ : K.In h₁ := X.keeps hk₁
    have hx₁ := hk₁ _ _ hx
    have hxL : s.heap.objs.size ≠ x := Nat.ne_of_gt (Heap.lt_size hx)
    have z0 : s.heap.objs.size < h₁.objs.size := hns.lt
    refine ks_wpAt_execs_cons (ks_wpAt_Expr_any (ks_wpAt_MethodCall ?_ (eval_meth hpos)))
    -- super()
    refine ks_wpAt_super_base rfl rfl (by decide +kernel) rfl (X₁ _ _ hf) rfl rfl rfl (X₁ _ _ hcode) rfl hvs hfile T.top ?_
    refine ks_loadName_global rfl rfl (loadGlobal_builtin (hg.keeps hk₁) hms (hb.keeps hk₁) (hbs.trans (by first | rfl | decide +kernel)) ⟨rfl, ?_⟩)
    refine wpAny_loadName_free rfl rfl rfl ⟨_, X₁ _ _ hcc, rfl⟩ ?_
    refine wpAny_loadName_local (v := .ref x) rfl rfl hns (by first | rfl | with_unfolding_all rfl | kernel_rfl) ?_
    obtain ⟨oD, hD1, hD2⟩ := cls_at X₁ hD
    refine ks_wpAny_isType_cls hD1 hD2 ⟨rfl, ?_⟩
    refine ks_wpAny_call_super hD1 hD2 hx₁ rfl (fun c e => by cases e) (looks_mroIn X₁ T.subD) (fun h₂ e k => ?_)
    -- .__init__
    have X₂ : K.In h₂ := X₁.keeps k
    have I₂ : InstAt h₂ x (HandSPX.excO C t0) C none := ⟨k _ _ hx₁, rfl, rfl, trivial⟩
    have hmro := looks_clsIn (M := model prog w) X₂ hcl
    have hsup := T.sup
    unfold ks_superIn at hsup
    rw [hcl] at hsup
    refine kxs_getMethod kxs_ValueError e (looks_opaque X₂ T.thi) (l₀ := .ref C :: bm) (fun A Q E s k q => wpAny_bind (hmro A _ E s k (wpAny_pure q))) rfl X₂ hsup (I₂.type.andThen (looks_subIn X₂ T.vC)) (ks_ne X₂ I₂ hcl) (by decide +kernel) ?_
    refine kxs_callWith (i := "ValueError.__init__") (x := x) rfl ?_
    refine evalArgs_plain (spliced1 (str_eval fun tok tk => ?_))
    have u2 : (h₂.push (kxs_mw "ValueError.__init__" x)).get? h₂.objs.size = some (kxs_mw "ValueError.__init__" x) := Heap.get?_push_at rfl rfl
    refine ⟨u2, ?_⟩
    refine call_bv (X₂.keeps (fun b o q => Heap.get?_push_of_some _ q) _ _ hC) (Heap.get?_push_of_some _ (k _ _ hx₁)) u2 (by rw [sizeLine_eq]; exact (by decide : 1 ≤ 16777216)) fun h₃ t1 k₃ e₃ => ?_
    have hk₃ : ∀ b o, b ≠ x → s.heap.get? b = some o → h₃.get? b = some o := fun b o hb q => k₃ b o hb (Heap.get?_push_of_some _ (k _ _ (hk₁ _ _ q)))
    have X₃ : K.In h₃ := kept_but X₂ hnx fun b o hb q => k₃ b o hb (Heap.get?_push_of_some _ q)
    have hn₃ : h₃.Ns s.heap.objs.size _ := hns.at (fun o q => k₃ _ _ hxL (Heap.get?_push_of_some _ (k _ _ q)))
    show wpAt _ _ _ (execs _ _) _ _ _
    refine ks_wpAt_execs_cons (ks_wpAt_Assign_Attr ?_)
    refine wpAt_of_wpAny (ldX (v := v) hn₃ (by first | rfl | with_unfolding_all rfl | kernel_rfl) ?_)
    refine ldX (v := .ref x) hn₃ (by first | rfl | with_unfolding_all rfl | kernel_rfl) ?_
    refine set_plain X₃ (ox := HandSPX.excO C t1) (od := none) ⟨e₃, rfl, rfl, trivial⟩ T.sa ?_
    refine HandSPX.exc_osa X₃ e₃ hcl (show HandSPX.refsVE (.ref C :: bm) = true from hbm) rfl T.noF (fun h₄ tk₄ dx k₄ dn dne hx₄ hn₄ => ?_)
    have z2 : s.heap.objs.size ≤ dx := by
      obtain ⟨oL, _, _, hL, _⟩ := hn₃
      exact Nat.le_of_lt (Nat.lt_of_lt_of_le (Heap.lt_size hL) dn)
    exact wpAt_of_wpAny (wpAny_execs_nil (hq h₄ tk₄ dx t1 ⟨fun b o hb q => k₄ b o hb (hk₃ b o hb q), hx₄, z2, dne, hn₄⟩))
/-- a made one -/
structure OwnMade (h h' : Heap) (e C d : Addr) (f : Str) (v : Value) : Prop where
  keep : ∀ b o, h.get? b = some o → h'.get? b = some o
  new : h.objs.size ≤ e
  obj : ∃ oe vs, h'.get? e = some oe ∧ oe.cls = .ref C ∧ oe.dict = some d ∧ oe.data = .fields vs ∧ vs[1]? = some .none ∧ vs[2]? = some .none
  dbig : h.objs.size ≤ d
  dne : d ≠ e
  ns : h'.Ns1 d (fun y => if y = f then some v else none)
theorem own_made (T : XmC prog K C D fI f) {v : Value} (X : K.In s.heap) (hlim : s.heap.NoLimit) (hg : s.heap.Ns mainGlobals mg) (hb : s.heap.Ns builtinsNs mb) (hms : mg "super" = none) (hbs : mb "super" = bootBuiltins "super") (hroom : A.depth + 1 < recursionLimit)
    (hq : ∀ h' tk e d, OwnMade s.heap h' e C d f v → R (.ok (.ret (.ref e))) { s with heap := h', toks := tk }) :
    codeAny (model prog w) A (.call (.ref C) ⟨[v], []⟩) R s := by
  obtain ⟨nm, q, N, bs, bm, sn, sub, ab, col, dd, k0, k1, k2, k3, k5, hC, hbm⟩ := T.cls
  obtain ⟨hp, g, dr, tk, os⟩ := s
  have k : ∀ b o, hp.get? b = some o → ((hp.push (kdv_tup [v])).push (HandSPX.excO C hp.objs.size)).get? b = some o := fun b o e => Heap.get?_push_of_some _ (Heap.get?_push_of_some _ e)
  have hget : ((hp.push (kdv_tup [v])).push (HandSPX.excO C hp.objs.size)).get? (hp.objs.size + 1) = some (HandSPX.excO C hp.objs.size) := by heap_get
  have hnx : K.lookup (hp.objs.size + 1) = none := by
    cases e : K.lookup (hp.objs.size + 1) with
    | none => rfl
    | some o =>
      have z : hp.get? (hp.objs.size + 1) = some o := X _ _ e
      exact absurd (Nat.lt_of_succ_lt (Heap.lt_size z)) (Nat.lt_irrefl _)
  refine HandSPX.call_own F.excBase_ValueError (fun X => HandSPX.refsVE_contains X bm hbm) (X _ _ hC) (looks_findIn X T.iC) (fun self => bind_fn X self T.tI) (by rw [sizeLine_eq]; exact (by decide : 1 ≤ 16777216)) ?_
  refine own_init (s := ⟨(hp.push (kdv_tup [v])).push (HandSPX.excO C hp.objs.size), g, dr, tk, os⟩) T (X.keeps k) (hlim.keeps k) (hg.keeps k) (hb.keeps k) hms hbs hget hnx ?_ fun h' tk' dx t1 ⟨k', hx, dn, dne, hns⟩ => ?_
  · show A.depth + 1 < recursionLimit
    exact hroom
  · have old : ∀ b o, hp.get? b = some o → h'.get? b = some o := fun b o e => k' b o (Nat.ne_of_lt (Nat.lt_succ_of_lt (Heap.lt_size e))) (k b o e)
    have z : hp.objs.size + 1 + 1 ≤ dx := by
      first
        | (simpa only [Heap.size_push] using dn)
        | exact dn
        | (have q := dn; rw [Heap.size_push, Heap.size_push] at q; exact q)
    exact ⟨rfl, hq h' tk' (hp.objs.size + 1) dx ⟨old, Nat.le_succ _, ⟨_, _, hx, rfl, rfl, rfl, rfl, rfl⟩, Nat.le_trans (Nat.le_trans (Nat.le_succ _) (Nat.le_succ _)) z, dne, hns⟩⟩
end
end XM
end PySem

set_option Elab.async false
set_option linter.all false
set_option maxRecDepth 100000
set_option maxHeartbeats 4000000
namespace L2N
open PySem PySem.Spec PyProof.Rows L2
theorem relO_one {f : Str} {v : V} {v' : Value} (r : RelV v v') (g : Str) : RelO (List.lookup g [(f, v)]) (if g = f then some v' else none) := by
  by_cases hw : g = f
  · subst hw
    rw [if_pos rfl]
    have q : List.lookup g [(g, v)] = some v := by simp [List.lookup]
    rw [q]
    exact r
  · rw [if_neg hw]
    have qw : (g == f) = false := by simpa using hw
    have q2 : List.lookup g [(f, v)] = none := by simp [List.lookup, qw]
    rw [q2]
    trivial
section
variable {X : Cx} {C D fI : Addr} {f : Str}
/-- C(e), C's __init__ stores the field f -/
def tMkX (C : Addr) (f : Str) (ta : TA) : St → Hp → XK → Prop := fun σ H Q => ta σ H fun vs H1 => ∃ v, vs = [v] ∧ ∀ d, H1 d = none → Q (.ref C) (some d) (upd H1 d (.xd [(f, v)]))
theorem pmk_xm {x : Str} {a : Expr} {ta : TA} {p pos : Pos} {k : Nat} (T : PySem.XM.XmC X.prog X.K C D fI f) (hr : Room k X.A) (gC : X.mg x = some (.ref C)) (gS : X.mg "super" = none) (ha : PA X [a] ta) (hg : Gl X x := by rfl) (hdb : (x == ("__debug__" : Str)) = false := by decide)
    (he : starEach (a :: []) X.env = (false, eval a X.env) :: starEach [] X.env := by rfl) (hpl : (backTo pos (starEach [] X.env)).any (·.1) = false := by rfl) :
    PMk X (.Call (.Name x p) [a] [] pos) (tMkX C f ta) := by
  intro pins s σ H Q I h
  refine wpAny_Call_Name_kw (ld_glob I hg gC ?_ hdb)
  refine PySem.W.callWith_K (h₀ := X.base) I.ok.mod.kin T.kC (thn (ha.run pos pins s σ H _ I h) fun us s1 hh => ?_) he hpl
  obtain ⟨vs, H1, I1, r1, v, ev, q1⟩ := hh
  subst ev
  refine ⟨I1.kIn, ?_⟩
  cases r1 with
  | cons rv rn =>
    rename_i v' us'
    cases rn
    show wpAny _ _ (call (.ref C) [v']) _ _ _
    have hlim := I1.nolimit
    obtain ⟨mb, hb1, hb2⟩ := I1.mod.blt
    have hb3 := hb1.keeps I1.bk
    have hg3 := I1.mod.glob.keeps I1.bk
    have hbs := hb2 "super" (by decide)
    obtain ⟨hp, g, dr, tk, os⟩ := s1
    refine wpAny_call (PySem.XM.own_made T I1.kIn hlim hg3 hb3 gS hbs (by have := hr.dp; omega) fun h' tk' e d M => ?_)
    show MkP X pins σ Q (.ref e) ⟨h', g, dr, tk', os⟩
    obtain ⟨oe, fv, hoe, hc, hd, hdat, h1, h2⟩ := M.obj
    have hns := M.ns
    obtain ⟨G', g1, g2⟩ := restrict h' fun b => decide (b ≠ e)
    have gk : ∀ b, b ≠ e → G'.get? b = h'.get? b := fun b hb => g1 b (decide_eq_true hb)
    have ge : G'.get? e = none := g2 e (by simp)
    have old : ∀ b o, hp.get? b = some o → G'.get? b = some o := fun b o q => (gk b (Nat.ne_of_lt (Nat.lt_of_lt_of_le (Heap.lt_size q) M.new))).trans (M.keep b o q)
    have ob : ObjOk X.prog X.w (upd H1 d (.xd [(f, v)])) G' d (.xd [(f, v)]) :=
      ⟨_, hns.at (fun o q => (gk d M.dne).trans q), fun g => relO_one rv g⟩
    have J : Inv X pins σ (upd H1 d (.xd [(f, v)])) ⟨G', g, dr, tk', os⟩ := I1.laid (t' := tk') old M.dbig ob
    refine ⟨e, oe, fv, ⟨G', g, dr, tk', os⟩, _, .ref C, some d, rfl, J, fun b o q => ?_, ge, hoe, ⟨hc, hd, fun vs e => ?_⟩, hdat, h1, ?_, rfl, I1.bare, raises_own T.exC T.tyC, q1 d (I1.hok.fresh M.dbig)⟩
    · by_cases hb : b = e
      · have q' : G'.get? b = some o := q
        rw [hb, ge] at q'; cases q'
      · exact (gk b hb).symm.trans q
    · rw [hdat] at e
      cases e
      exact h2
    · rw [upd_ne (Ne.symm M.dne)]
      exact I1.hok.fresh M.new
end
/-! ### several except clauses with names -/
inductive HdsA (X : Cx) : List ExceptHandler → List (Value × Nat × (Addr → Value → Option Addr → TS)) → Prop
  | nil : HdsA X [] []
  | cons {x n : Str} {c : Value} {i : Nat} {ts : Addr → Value → Option Addr → TS} {b₀ : Stmt} {suite : List Stmt} {np pos' : Pos} {hds : List ExceptHandler} {l : List (Value × Nat × (Addr → Value → Option Addr → TS))} (hc : Names X x c) (hi : X.N[i]? = some n) (hln : X.env.kindOf n = some .local)
      (hsu : ∀ (a : Addr) (oe : Obj) (cls : Value) (d : Option Addr) (pn : List (Addr × Obj)), Zn cls d oe → (∃ vs, oe.data = .fields vs) → PSs (X.suite a ((a, oe) :: pn)) (b₀ :: suite) (ts a cls d)) (r : HdsA X hds l) :
      HdsA X (.ExceptHandler (some (.Name x np)) (some n) (b₀ :: suite) pos' :: hds) ((c, i, ts) :: l)
/-- what the clauses wish of an exception of the body, one after the other -/
def wManyA (K : PySem.W.Frag) (Wout : WX) (D : Ends) : List (Value × Nat × (Addr → Value → Option Addr → TS)) → WX
  | [] => Wout
  | (c, i, ts) :: r => fun cls d σ H => ∃ b, PySem.W.exmOne K cls c = some b ∧ (b = true → ∀ a, H a = none → ts a cls d { nx := fun σ' H' => D.nx (σ'.set i none) H', rt := D.rt, bk := fun σ' H' => D.bk (σ'.set i none) H', ct := fun σ' H' => D.ct (σ'.set i none) H' } (σ.set i (some (.ref a))) H) ∧ (b = false → wManyA K Wout D r cls d σ H)
section
variable {X : Cx} {body : List Stmt} {h₀ : ExceptHandler} {hds : List ExceptHandler} {l : List (Value × Nat × (Addr → Value → Option Addr → TS))} {pos : Pos} {tb : WX → TS} {Wout : WX}
theorem ps_try_manyA (hs : X.stack = X.env :: X.outer) (hf : X.env.frame = some X.env.locals) (hN : X.N.Nodup) (tk : Takes X Wout)
    (hb : ∀ (W : WX) (pn : List (Addr × Obj)) (xe : Value → Shared → Prop), Takes (X.tr pn xe) W → PassesOwn (model X.prog X.w) X.A X.env xe → PSs (X.tr pn xe) body (tb W))
    (hh : HdsA X (h₀ :: hds) l) : PS X (.Try body (h₀ :: hds) [] [] pos) (fun D σ H => tb (wManyA X.K Wout D l) D σ H) := by
  refine ⟨fun pins s σ H D I h => ?_⟩
  have ok := I.ok
  have hfr : X.A.frames = some (X.env :: X.outer) := by rw [ok.frames, hs]
  refine wpAny_Try_except ?_
  refine wpAny_mono ((hb (wManyA X.K Wout D l) (X.pn ++ pins) (fun e s₁ => wpAny (model X.prog X.w) X.A (noteFrame e X.env) (fun _ s₂ => wpAny (model X.prog X.w) X.A (setFlight e none) (fun _ s₃ =>
    wpAny (model X.prog X.w) X.A (handleBy e X.env (h₀ :: hds)) (SP X pins D) X.xe s₃) X.xe s₂) X.xe s₁) (fun u s' xx => ?_) PassesOwn.looking).run [] s σ H D (I.toTry _) h) (fun f s1 hsp => ?_) (fun e s1 he => he)
  · -- the catch
    obtain ⟨a, B, sI, pins', σ', H', cls, d, rfl, J', nb, up, sky, na, os, ag, w⟩ := xx
    have J : Inv X pins σ' H' sI := J'.ofTry ok
    have sky' : Sky B (X.env :: X.outer) a (Zn cls d) X.env.locals s'.heap := by rw [← hs]; exact sky
    show wpAny (model X.prog X.w) X.A (noteFrame (.ref a) X.env) _ _ _
    refine Sky.land Zn.steady hfr hf sky' fun h3 fl3 up3 => ?_
    have J3 : Inv X pins σ' H' { s' with heap := h3 } := J.landed nb fl3.1 (up.trans up3) os ag
    obtain ⟨oe3, vs3, he3, hz3, hd3⟩ := fl3.there
    have notFr : ∀ {h : Heap} {o : Obj} {vs : Array Value}, h.FunFrames B (X.env :: X.outer) → h.get? a = some o → o.data = .fields vs → a ∉ frs (X.env :: X.outer) := fun {h o vs} ff e dd hm => by
      obtain ⟨_, o', e', hnf⟩ := ff.mem hm
      rw [e] at e'; cases e'
      exact hnf _ dd
    have nfr := notFr fl3.2.2.1 he3 hd3
    have nL : a ≠ X.env.locals := fun z => nfr (List.mem_filterMap.mpr ⟨X.env, List.mem_cons_self, by rw [hf, z]⟩)
    have nF : a ∉ X.fs := fun hm => by
      obtain ⟨e, he, q⟩ := List.mem_filterMap.mp hm
      exact nfr (List.mem_filterMap.mpr ⟨e, List.mem_cons_of_mem _ he, q⟩)
    have S3 := J3.suite he3 hd3 na nL nF
    have go : ∀ {hds' : List ExceptHandler} {l' : List (Value × Nat × (Addr → Value → Option Addr → TS))}, HdsA X hds' l' → wManyA X.K Wout D l' cls d σ' H' →
        wpAny (model X.prog X.w) X.A (handleBy (.ref a) X.env hds') (SP X pins D) X.xe { s' with heap := h3 } := by
      intro hds' l' hk
      induction hk with
      | nil =>
        intro w
        refine wpAny_handleBy_nil ?_
        obtain ⟨k1, k2, k3, oe, vs, T, oT, ts', he, hz, hd, h1, hr⟩ := id fl3
        unfold PySem.passOn
        refine wpAny_bind (wpAny_field he hd h1 ?_)
        rw [if_neg (show ¬ ((Value.ref T == Value.none) = true) from by simp)]
        have fin : wpAny (model X.prog X.w) X.A (setFlight (.ref a) X.env.frame) (fun _ s4 => wpAny (model X.prog X.w) X.A (throw (.ref a) : Sem Flow) (SP X pins D) X.xe s4) X.xe { s' with heap := h3 } := by
          rw [hf]
          refine HandSPX.setFlight_upZ fl3 fun h4 hh4 up4 => wpAny_throw (tk _ _ ?_)
          exact ⟨a, B, sI, pins, σ', H', cls, d, rfl, J, nb, (up.trans up3).trans up4, .inr (.inr (by rw [hs]; exact hh4)), na, os, ag, w⟩
        first
          | exact wpAny_bind (wpAny_pure (wpAny_bind fin))
          | exact wpAny_bind fin
      | @cons x n c i ts b₀ suite np pos' hds2 l2 hc hi hln hsu r ih =>
        intro w
        have hloc : Loc X.env.scope n := .inl hln
        obtain ⟨b, hb1, hyes, hno⟩ := w
        refine wpAny_handleBy_cons (codeAny_handlers_test ?_) (by intro q; cases q)
        have LT : PySem.W.Looks (model X.prog X.w) h3 (typeOf (.ref a)) cls := fun A Q E s k q => wpAny_typeOf_ref (k _ _ he3) (by rw [hz3.1]; exact q)
        have LM := PySem.W.exm_one (M := model X.prog X.w) (J3.kIn) LT hb1
        have test : ∀ {Q : Value → Shared → Prop} {E : Value → Shared → Prop}, Q c { s' with heap := h3 } → wpAny (model X.prog X.w) (X.A.mark (some (.ref a))) (eval (.Name x np) X.env) Q E { s' with heap := h3 } := fun {Q E} q => by
          obtain ⟨hg, hdbg, hm | ⟨hm, hv, hnn⟩⟩ := hc
          · exact ld_glob (X := X.suite a ((a, oe3) :: (X.pn ++ pins))) S3 hg hm q hdbg
          · exact ld_blt (X := X.suite a ((a, oe3) :: (X.pn ++ pins))) S3 hg hm hv q hnn hdbg
        refine test (LM.here ?_)
        cases b with
        | true =>
          refine codeAny_handlers_suite_as ?_
          refine HandSPX.lands_againZ fl3 fun h4 fl4 up4 => ?_
          have J4 : Inv X pins σ' H' { s' with heap := h4 } := J.landed nb fl4.1 ((up.trans up3).trans up4) os ag
          obtain ⟨oe4, vs4, he4, hz4, hd4⟩ := fl4.there
          have S4 := J4.suite he4 hd4 na nL nF
          refine store_ok (X := X.suite a ((a, oe4) :: (X.pn ++ pins))) (v := .ref a) S4 hN hi hloc rfl (fun s5 S5 => ?_) (.inr hln)
          refine wpAny_mono ((hsu a oe4 cls d (X.pn ++ pins) hz4 ⟨_, hd4⟩).run [] s5 _ H' _ S5 (hyes rfl a na)) (fun f s6 hsp => ?_) (fun _ _ z => False.elim z)
          have end_ : ∀ {σ6 : St} {H6 : Hp} {Q : Shared → Prop}, Inv (X.suite a ((a, oe4) :: (X.pn ++ pins))) [] σ6 H6 s6 → (∀ s7, Inv X pins (σ6.set i none) H6 s7 → Q s7) →
              wpAny (model X.prog X.w) X.A (do bindName X.env n .none; unbindBehindTheSuite X.env n pos') (fun _ s7 => Q s7) X.xe s6 := fun {σ6 H6 Q} S6 hq => gone_ok (S6.unsuite ok) hN hi hln hq
          cases f with
          | next =>
            obtain ⟨σ6, H6, S6, q6⟩ := hsp
            exact end_ S6 fun s7 J7 => ⟨_, _, J7, q6⟩
          | brk =>
            obtain ⟨σ6, H6, S6, q6⟩ := hsp
            exact end_ S6 fun s7 J7 => ⟨_, _, J7, q6⟩
          | cont =>
            obtain ⟨σ6, H6, S6, q6⟩ := hsp
            exact end_ S6 fun s7 J7 => ⟨_, _, J7, q6⟩
          | ret u =>
            obtain ⟨v6, σ6, H6, S6, r6, q6⟩ := hsp
            exact end_ S6 fun s7 J7 => ⟨_, _, _, J7, r6, q6⟩
        | false =>
          show wpAny _ X.A (handleBy (.ref a) X.env hds2) _ _ _
          exact ih (hno rfl)
    exact go hh w
  · cases f with
    | next =>
      obtain ⟨σ', H', J', q⟩ := hsp
      exact wpAny_execs_nil ⟨σ', H', J'.ofTry ok, q⟩
    | brk =>
      obtain ⟨σ', H', J', q⟩ := hsp
      exact ⟨σ', H', J'.ofTry ok, q⟩
    | cont =>
      obtain ⟨σ', H', J', q⟩ := hsp
      exact ⟨σ', H', J'.ofTry ok, q⟩
    | ret u =>
      obtain ⟨v, σ', H', J', r, q⟩ := hsp
      exact ⟨v, σ', H', J'.ofTry ok, r, q⟩
end
end L2N

set_option Elab.async false
set_option linter.all false
set_option maxRecDepth 100000
set_option maxHeartbeats 4000000
namespace L2E
open PySem PySem.Spec PyProof.Rows L2 L2H
open L2N (Zn)
abbrev SpE := Addr → Value → Option Addr → Sp
/-- a def that is called with the exception that an except suite holds -/
structure FnE (P : Program) (w : World) (K : PySem.W.Frag) (mg : Str → Option Value) (base : Heap) (k : Nat) (f : Addr) (fd : FuncData) (ps : List Str) (sp : SpE) : Prop where
  len : ∀ a cls d vs H Q E, sp a cls d vs H Q E → vs.length = ps.length
  run : ∀ (A : Around) (outer : List Env) (s : Shared) (H : Hp) (args : Args) (us : List Value) (vs : List V) (Q : VK) (E : XK) (p : Addr × Obj) (cls : Value) (d : Option Addr), RoomH k A → Hot1 A p → Zn cls d p.2 → PinOk outer H s p → Env0 P w K mg base A outer s H → BindsTo s fd args (ps.zip us) → Vals vs us → sp p.1 cls d vs H Q E →
    codeAny (model P w) A (.call (.ref f) args) (CR CX0 outer P w H s Q E) s
theorem fn_ofE {P : Program} {w : World} {K : PySem.W.Frag} {mg : Str → Option Value} {base : Heap} {k : Nat} {f : Addr} {name qual : Str} {params : Arguments} {body : List Stmt} {scope : Scope} {dV kV doc pm cdv ct oc : Value} {an od : Option Addr}
    {osl : Array (Option Value)} {N ps : List Str} {sp : SpE} (lk : K.lookup f = some ⟨oc, od, .func (PySem.W.fnOf name qual params body scope dV kV doc pm an cdv ct), osl⟩) (hcd : PySem.W.codeIn K cdv qual = true) (S : FnScope N ps scope)
    (len : ∀ a cls d vs H Q E, sp a cls d vs H Q E → vs.length = ps.length)
    (hbody : ∀ (A : Around) (outer : List Env) (s : Shared) (H : Hp) (vs : List V) (Q : VK) (E : XK) (p : Addr × Obj) (cls : Value) (d : Option Addr), Hot1 A p → Zn cls d p.2 → RoomH k (A.deeper (envOfC qual scope s.heap.objs.size f cdv)) → sp p.1 cls d vs H Q E →
      ∃ t, PSs (cxH CX0 P w K mg base N qual scope f cdv A outer s H E p) body t ∧ t { nx := fun _ H' => Q .non H', rt := Q } (L2.start N vs) H) :
    FnE P w K mg base (k + 1) f (PySem.W.fnOf name qual params body scope dV kV doc pm an cdv ct) ps sp := by
  refine ⟨len, fun A outer s H args us vs Q E p cls d hr hot hz hpin e0 hb r hsp => ?_⟩
  have hl := len _ _ _ _ _ _ _ hsp
  have KX : K.In s.heap := e0.mod.kin.keeps fun b o e => (e0.bs b o e).1
  have lim : s.heap.NoLimit := e0.mod.nolimit.keeps fun b o e => (e0.bs b o e).1
  have hkind : ∀ y ∈ ps.zip us, scope.names.lookup y.1 = some .local ∨ (scope.names.lookup y.1 = some .cell ∧ ((cellsFrom (s.heap.objs.size + 1) scope.names []).lookup y.1).isSome = true) := fun ⟨n, v⟩ hy => by
    rcases S.par n (List.of_mem_zip hy).1 with q | q
    · exact .inl q
    · exact .inr ⟨q, PySem.W.cellsFrom_some _ _ _ (.inl q)⟩
  refine codeAny_call_function hr.depth (KX _ _ lk) rfl S.co S.gen rfl (PySem.W.codeRec_of KX hcd) (hb _ _ _ _ ?_)
  refine wpAny_newFunctionEnv_cells S.kind hkind fun env he s1 x => ?_
  subst he
  refine ⟨lim.keeps x.toInCall.keep, codeAny_func ?_⟩
  obtain ⟨t, ht, hq⟩ := hbody A outer s H vs Q E p cls d hot hz (hr.deeper _) hsp
  have I : Inv (cxH CX0 P w K mg base N qual scope f cdv A outer s H E p) [] (L2.start N vs) H s1 := inv_startH S hpin e0 hl r x
  refine wpAny_mono (ht.run [] s1 (L2.start N vs) H _ I hq) (fun fl s' hs => ?_) fun e s' hs => hs
  have fin : ∀ {σ' : L2.St} {H' : Hp} {v : V} {u : Value}, Inv (cxH CX0 P w K mg base N qual scope f cdv A outer s H E p) [] σ' H' s' → RelV v u → Q v H' → CE outer P w H s Q u s' :=
    fun {σ' H' v u} J rv q => ⟨v, H', J.os, J.bare, J.base, J.hok, rv, q⟩
  cases fl with
  | ret u =>
    obtain ⟨v, σ', H', J, rv, q⟩ := hs
    exact fin J rv q
  | next =>
    obtain ⟨σ', H', J, q⟩ := hs
    exact fin (v := V.non) (u := Value.none) J rfl q
  | brk =>
    obtain ⟨_, _, _, q⟩ := hs
    exact False.elim q
  | cont =>
    obtain ⟨_, _, _, q⟩ := hs
    exact False.elim q
/-- the call, in the suite -/
def tCallE (sp : SpE) (a : Addr) (cls : Value) (d : Option Addr) (t : TA) : TE := fun σ H Q => t σ H fun vs H1 => sp a cls d vs H1 Q fun _ _ _ => False
section
variable {X : Cx} {a : Addr} {oe : Obj} {cls : Value} {d : Option Addr} {pn : List (Addr × Obj)} {k : Nat} {f : Addr} {fd : FuncData} {ps : List Str} {sp : SpE} {x : Str} {q pos : Pos} {e : Expr} {es : List Expr} {t : TA}
theorem pe_callE (F : FnE X.prog X.w X.K X.mg X.base k f fd ps sp) (hr : RoomH k X.A) (hz : Zn cls d oe) (hf : ∃ vs, oe.data = .fields vs) (hg : Gl (X.suite a ((a, oe) :: pn)) x) (hm : X.mg x = some (.ref f)) (hk : PySem.W.keepIn X.K (.ref f) = true) (hb : Binds X.K fd ps [])
    (ha : PA (X.suite a ((a, oe) :: pn)) (e :: es) t) (hdb : (x == ("__debug__" : Str)) = false := by decide) (he : starEach (e :: es) X.env = (false, eval e X.env) :: starEach es X.env := by rfl) (hpl : (backTo pos (starEach es X.env)).any (·.1) = false := by rfl) :
    PE (X.suite a ((a, oe) :: pn)) (.Call (.Name x q) (e :: es) [] pos) (tCallE sp a cls d t) := by
  refine ⟨fun pins s σ H Q I h => ?_⟩
  refine wpAny_Call_Name_kw (ld_glob I hg hm ?_ hdb)
  refine PySem.W.callWith_K (h₀ := X.base) I.ok.mod.kin hk (thn (ha.run pos pins s σ H _ I h) fun us s1 ⟨vs, H1, I1, r, q⟩ => ⟨I1.kIn, ?_⟩) he hpl
  have hl : us.length = ps.length := by rw [← r.length]; exact F.len _ _ _ _ _ _ _ q
  have b := hb s1 us I1.kIn (by rw [List.append_nil]; exact hl)
  rw [List.append_nil] at b
  have P1 := I1.pin (a, oe) (List.mem_append_left _ List.mem_cons_self)
  have hpin : PinOk X.stack H1 s1 (a, oe) := ⟨P1.1, P1.2.1, fun hm => (List.mem_cons.mp (I1.stkSub a hm)).elim P1.2.2.1 P1.2.2.2.1, P1.2.2.2.2⟩
  obtain ⟨fv, hfv⟩ := hf
  have hot : Hot1 (X.suite a ((a, oe) :: pn)).A (a, oe) := ⟨rfl, fv, hfv, hz.2.2 fv hfv⟩
  refine wpAny_call (codeAny_mono (F.run _ X.stack s1 H1 ⟨us, []⟩ us vs Q (fun _ _ _ => False) (a, oe) cls d ⟨hr.dp, hr.un⟩ hot hz hpin I1.env0 b r q) fun r s' hq => ?_)
  cases r with
  | error e => exact False.elim hq
  | ok fl =>
    cases fl with
    | ret u => exact I1.after hq
    | next => exact False.elim hq
    | brk => exact False.elim hq
    | cont => exact False.elim hq
end
end L2E

set_option Elab.async false
set_option linter.all false
set_option maxRecDepth 100000
set_option maxHeartbeats 4000000
/-! isinstance of an exception that has a dict -/
namespace PySem.W
open PySem PySem.Spec PySem.Calls PyProof.Rows
section
variable {prog : Program} {w : World} {A : Around} {E : Value → Shared → Prop} {s : Shared} {K : Frag} {x D : Addr} {ox : Obj} {od : Option Obj}
theorem xis_data {C : Addr} {name : Str} {a g : Value} (hc : (clsIn K C).isSome = true) (ha : findIn K (.ref C) name = some (some a)) (hg : specialIn K a "__get__" = some (some g)) (ht : takesIn K a = some true) : findObj K C od name = some (.bind g a) := by
  obtain ⟨cd, hc⟩ := Option.isSome_iff_exists.mp hc
  unfold findObj
  rw [hc, Option.bind_some, ha, Option.bind_some]
  simp [hg, ht]
theorem xis_class {Q : Option Value → Shared → Prop} (T : L2.ExcC K D) (X : K.In s.heap) (I : InstAt s.heap x ox D od) (h : Q (some (.ref D)) { s with toks := s.toks + 1 }) : wpAny (model prog w) A (getAttr? (.ref x) "__class__") Q E s := by
  have hf : findObj K D od "__class__" = some (.bind (.builtin "getset_descriptor.__get__") (.builtin "object.__class__")) := xis_data (by obtain ⟨cd, hc, _⟩ := any_some T.hd; rw [hc]; rfl) T.ha T.hn T.ht
  obtain ⟨hp, g, d, t, os⟩ := s
  have La := I.type (M := model prog w)
  have Lb := looks_findIn (M := model prog w) X T.hg
  have Lc := looks_findIn (M := model prog w) X T.hk
  have Ld := looks_find (M := model prog w) X I hf
  have sub : Looks (model prog w) hp (isInstance (.ref x) (.type "BaseException")) true := La.andThen (looks_subIn X T.hs)
  have hx0 : (false && onTheHeap (Value.builtin "BaseException.__getattribute__")) = false := rfl
  have hx2 : (Value.builtin "BaseException.__getattribute__" == Value.builtin "object.__getattribute__") = false := by decide +kernel
  have hx1 : (onTheHeap (Value.ref D) && Value.builtin "BaseException.__getattribute__" == Value.builtin "object.__getattribute__") = false := by rw [hx2]; rfl
  unfold getAttr? getAttrBy? getAttrBy
  refine wpAny_bind (wpAny_mkText (wpAny_bind (wpAny_attempt (wpAny_holding (wpAny_bind (La.at (wpAny_bind (Lb.at ?_))))))))
  show wpAny _ _ (if (onTheHeap (Value.ref D) && Value.builtin "BaseException.__getattribute__" == Value.builtin "object.__getattribute__") = true then _ else _) _ _ _
  rw [hx1, if_neg Bool.false_ne_true]
  unfold getAttrByItsOwn hookBefore
  refine wpAny_bind ?_
  rw [if_pos (show onTheHeap (Value.ref D) = true from rfl)]
  refine Lc.at ?_
  refine wpAny_bind (wpAny_attempt (wpAny_holding ?_))
  unfold callGetattribute
  rw [hx0, if_neg Bool.false_ne_true]
  unfold boundAndCalled
  rw [PySem.F.excAttr_ValueError.ga.bind (.ref x)]
  refine wpAny_bind (wpAny_pure ?_)
  show wpAny _ _ (call (.builtin "BaseException.__getattribute__") [.ref x, .str "__class__" t]) _ _ _
  refine wpAny_call (codeAny_call_builtin PySem.F.excAttr_ValueError.ga.plain PySem.F.entry_bexc_ga ?_)
  refine @check_slot (model prog w) _ _ ⟨hp, g, d, t + 1, os⟩ "BaseException.__getattribute__" "BaseException" "__getattribute__" (.ref x) [.str "__class__" t] [] _ (by decide +kernel) (by decide +kernel) sub (PySem.F.args_bexc_ga (.ref x) (.str "__class__" t)) ?_
  unfold Builtin.«object.__getattribute__»
  refine wpAny_bind (wpAny_of_eq (a := ((Value.ref x : Value), [Value.str "__class__" t])) (by first | rfl | (simp only [slotArgs]; rfl)) ?_)
  refine wpAny_bind (wpAny_pure (wpAny_bind (La.at (wpAny_bind (Ld.at ?_)))))
  show wpAny _ _ (holding [Value.builtin "object.__class__"] (call (.builtin "getset_descriptor.__get__") [.builtin "object.__class__", .ref x, .ref D]) >>= ret) _ _ _
  refine wpAny_bind (wpAny_holding (wpAny_call (class_get (s := ⟨hp, g, d, t + 1, os⟩) (ox := ox) (od := od) X I T.hm ?_)))
  refine wpAny_pure ?_
  show wpAny _ _ (handedOut (.ref D)) _ _ _
  rw [handedOut_of (v := .ref D) rfl]
  first
    | exact wpAny_pure (wpAny_pure h)
    | exact wpAny_pure h
    | exact wpAny_pure (wpAny_bind (wpAny_pure (wpAny_pure h)))
theorem xis_kit (T : L2.ExcC K D) : KitX K (.ref x) (.ref D) (fun h => InstAt h x ox D od) where
  ty := fun _ _ _ I => I.type
  it := fun _ _ X _ => by
    obtain ⟨cdD, hcD, _⟩ := any_some T.hd
    unfold clsIn at hcD
    split at hcD
    · rename_i c' d' cd' sl' ho
      intro A' Q' E' s' k q
      unfold isType loadHead
      exact wpAny_bind (wpAny_loadPart (k _ _ (X _ _ ho)) (wpAny_pure q))
    · cases hcD
  ne := fun h tp dd its n sl X htp => by
    obtain ⟨cdD, hcD, _⟩ := any_some T.hd
    refine Bool.eq_false_iff.mpr fun q => ?_
    have e : D = tp := Value.ref.inj (beq_iff_eq.mp q)
    subst e
    unfold clsIn at hcD
    split at hcD
    · rename_i c' d' cd' sl' ho
      have z := (X _ _ ho).symm.trans htp
      cases z
    · cases hcD
  ca := fun X I k => xis_class T X I k
end
end PySem.W
namespace L2E
open PySem PySem.Spec PyProof.Rows L2 L2H
/-- isinstance(e, c), e the exception that is handled -/
def rIsX (K : PySem.W.Frag) (D a : Addr) (d : Option Addr) : List V → Hp → VK → Prop := fun xs H Q => ∃ (c : V) (cv : Value) (b : Bool), xs = [.ref a, c] ∧ (∀ u, RelV c u → u = cv) ∧ PySem.W.kitOne K (.ref D) cv = some b ∧ (∀ dd, d = some dd → ∃ fs, H dd = some (.xd fs)) ∧ Q (.bl b) H
theorem call_isX {X : Cx} {D : Addr} {d : Option Addr} {p : Addr × Obj} (C : ExcC X.K D) (hz : Zc (.ref D) d p.2) (hf : ∃ vs, p.2.data = .fields vs) (hp : p ∈ X.pn) : CallR X (.builtin "isinstance") (rIsX X.K D p.1 d) := by
  intro pins s σ H xs us Q I r h
  obtain ⟨c, cv, b, rfl, hcv, e, hd, q⟩ := h
  cases r with
  | cons rx rr =>
    cases rr with
    | cons rt rr =>
      cases rr
      cases rx
      have ec := hcv _ rt
      subst ec
      obtain ⟨hget, _⟩ := I.pin p (List.mem_append.mpr (.inl hp))
      obtain ⟨vs, hv⟩ := hf
      obtain ⟨pa, oc, od, oda, osl⟩ := p
      obtain ⟨h1, h2⟩ := hz
      dsimp only at h1 h2 hv hget
      subst h1 h2 hv
      have fin : ∀ oD : Option Obj, PySem.W.InstAt s.heap pa ⟨.ref D, od, .fields vs, osl⟩ D oD → wpAny (model X.prog X.w) X.A (call (.builtin "isinstance") [.ref pa, _]) (EP X pins σ Q) X.xe s := fun oD J =>
        PySem.W.kia_one (PySem.W.xis_kit C) I.kIn J e (fun z => nomatch z) fun tk => ⟨.bl b, H, I.kept (t' := tk) fun _ _ z => z, rfl, q⟩
      cases od with
      | none => exact fin none ⟨hget, rfl, rfl, trivial⟩
      | some dd =>
        obtain ⟨fs, hfs⟩ := hd dd rfl
        have hx : ObjOk X.prog X.w H s.heap dd (.xd fs) := I.hok dd _ hfs
        obtain ⟨mA, hns, hr⟩ := hx
        obtain ⟨oD, ho, hl⟩ := lookIn_ns hns
        exact fin (some oD) ⟨hget, rfl, rfl, ho⟩
end L2E

set_option Elab.async false
set_option linter.all false
set_option maxRecDepth 100000
set_option maxHeartbeats 4000000
/-! a list comprehension over a range, within an except suite's calls (follows HandS.Comp's lc_core, the pins kept) -/
namespace L2E
open PySem PySem.Spec PyProof.Rows L2 L2H
abbrev St := L2.St
abbrev _root_.L2.Cx.blkH (X : Cx) (s : Shared) (H : Hp) (scope : Scope) (cenv : Env) (fp : List Addr) : Cx := { X with s_0 := s, H_0 := H, env := cenv, outer := X.stack, ex := fp, fn := fun x => scope.names.lookup x == some .cell, xe := fun _ _ => False }
section
variable {X : Cx} {pins : List (Addr × Obj)} {σ : St} {H : Hp} {s : Shared}
theorem block_startH {scope : Scope} {own : List (Str × Nat)} {fp : List Addr} (I : Inv X pins σ H s) (ok : BlkOk X.N X.env.scope scope own) (hN : X.N.Nodup) (hfp : ∀ b ∈ fp, FpOk X pins H b ∧ b < s.heap.objs.size) :
    Inv (X.blkH s H scope (compEnvC scope (cellsFrom (s.heap.objs.size + 1) scope.names (cloFrom X.env.cells scope.names [])) s.heap.objs.size X.env) fp) [] (wipe σ (own.map (·.2))) H { s with heap := pushCells (s.heap.push { cls := .type "dict", data := .dict #[] }) scope.names } := by
  have J := block_start I ok hN hfp
  refine ⟨⟨J.ok.mod, J.ok.kind, J.ok.glob, J.ok.blt, J.ok.above, J.ok.inj, J.ok.has, J.ok.cab, J.ok.hd, J.ok.frames, J.ok.stk, J.ok.exf, J.ok.bs, J.ok.bsz, J.ok.noex, J.ok.exfs, J.ok.funs, J.ok.frf⟩, J.os, J.bare, J.base, J.loc, J.cell, J.free, J.freeC, fun p hp => ?_, J.hok, J.len⟩
  have hp' : p ∈ X.pn := (List.mem_append.mp hp).elim id (fun z => absurd z (by simp))
  obtain ⟨h1, h2, h3, h4, h5⟩ := I.pin p (List.mem_append_left _ hp')
  have lt := Heap.lt_size h1
  exact ⟨pushCells_keeps _ _ _ _ (Heap.get?_push_of_some _ h1), h2, Nat.ne_of_lt lt, fun hm => (List.mem_cons.mp (I.stkSub p.1 hm)).elim h3 h4, h5⟩
end
section
variable {X : Cx}
theorem lc_coreH {pins : List (Addr × Obj)} {s : Shared} {σ : St} {H : Hp} {Q : VK} {elt tg iter : Expr} {ifs : List Expr} {scope : Scope} {own : List (Str × Nat)} {pos pos' : Pos} {wi : TI} {g : TG} {tt : TT} {te : TE} {use : Option (Value → Sem Unit)} {Qf : Value → Shared → Prop}
    (hc : HotC X) (hN : X.N.Nodup) (I : Inv X pins σ H s) (hi : PIH X tg iter wi) (ok : BlkOk X.N X.env.scope scope own)
    (hg : ∀ (s : Shared) (H : Hp) (C : Addr) (cl : List (Str × Addr)) (fp : List Addr), PG (X.blkH s H scope (compEnvC scope cl C X.env) fp) tg g) (ht : ∀ (s : Shared) (H : Hp) (C : Addr) (cl : List (Str × Addr)) (fp : List Addr), PTs (X.blkH s H scope (compEnvC scope cl C X.env) fp) ifs tt)
    (he : ∀ (s : Shared) (H : Hp) (C : Addr) (cl : List (Str × Addr)) (fp : List Addr), PE (X.blkH s H scope (compEnvC scope cl C X.env) fp) elt te) (hs : ∀ x, foldedSetIterable iter X.env x = pure x)
    (h : tLc wi g tt te (own.map (·.2)) σ H Q)
    (hRR : ∀ D C s' m H', Inv X pins σ H' s' → Q (.ref D) H' → s'.heap.Ns C m → FpOk X pins H' C → compPost (model X.prog X.w) X.A X.xe use Qf (.ref D) C (.ok .next) s') :
    wpAny (model X.prog X.w) X.A (comprehension (.ListComp elt [⟨tg, iter, ifs, 0⟩] scope pos) scope X.env pos' (newList []) false (eval iter X.env) use) Qf X.xe s := by
  have hfree : ∀ y ∈ scope.names, y.2 = .free → ∃ c, X.env.cells.lookup y.1 = some c := fun y hy e => by
    rcases ok.free y hy e with k | k
    · exact I.ok.has _ (.inl k)
    · exact I.ok.has _ (.inr k)
  refine wpAny_comprehension_free (use := use) rfl hs (closure_ok hfree) ok.kind (fun y hy e => by rw [ok.uniq y hy, e])
    (thn (hi.run pins s σ H _ I h) fun xv s1 hx => thn hx fun itv s2 h2 => ?_)
  obtain ⟨it, fp, tn, J, H2, e, I2, T, st2, f2, q⟩ := h2
  subst e
  refine wpAny_newObj_type (newEnv_comp ?_) (by show 0 ≤ sizeLine; decide)
  generalize hD : s2.heap.objs.size = D
  have hDn : H2 D = none := I2.hok.fresh (Nat.le_of_eq hD)
  obtain ⟨W, ⟨m0, w0⟩, turn⟩ := q D hDn
  -- the new list
  generalize hs3 : ({ s2 with heap := s2.heap.push { cls := .type "list", data := .seq ([] : List Value).toArray } } : Shared) = s3
  have I3 : Inv X pins σ (upd H2 D (.lst [])) s3 := by
    rw [← hs3]
    refine I2.laid (t' := s2.toks) (fun b o e => Heap.get?_push_of_some _ e) (Nat.le_of_eq hD) ⟨Nat.zero_le _, [], 0, .nil, ?_⟩
    rw [← hD]
    exact Heap.get?_push_size _ rfl
  have h3 : s3.heap = s2.heap.push { cls := .type "list", data := .seq ([] : List Value).toArray } := by rw [← hs3]
  have sz : ∀ b ∈ fp, b < s2.heap.objs.size := fun b hb => by
    obtain ⟨o, e, _⟩ := T.obj _ _ st2 b hb
    exact Heap.lt_size e
  have f3 : ∀ b ∈ fp, FpOk X pins (upd H2 D (.lst [])) b ∧ b < s3.heap.objs.size := fun b hb => by
    have hlt := sz b hb
    refine ⟨⟨?_, (f2 b hb).2⟩, by rw [h3, Heap.size_push]; exact Nat.lt_succ_of_lt hlt⟩
    rw [upd_ne (by rw [← hD]; exact Nat.ne_of_lt hlt)]
    exact (f2 b hb).1
  have st3 : tn 0 s3.heap := T.keep _ _ _ st2 fun b _ o e => by rw [h3]; exact Heap.get?_push_of_some _ e
  have I4 := block_startH I3 ok hN f3
  have pg := hg s3 (upd H2 D (.lst [])) s3.heap.objs.size (cellsFrom (s3.heap.objs.size + 1) scope.names (cloFrom X.env.cells scope.names [])) fp
  have pt := ht s3 (upd H2 D (.lst [])) s3.heap.objs.size (cellsFrom (s3.heap.objs.size + 1) scope.names (cloFrom X.env.cells scope.names [])) fp
  have pe := he s3 (upd H2 D (.lst [])) s3.heap.objs.size (cellsFrom (s3.heap.objs.size + 1) scope.names (cloFrom X.env.cells scope.names [])) fp
  show codeAny _ _ (.compStart (.ListComp elt [⟨tg, iter, ifs, 0⟩] scope pos) 0 (.ref it) (.ref D) (compEnvC scope (cellsFrom (s3.heap.objs.size + 1) scope.names (cloFrom X.env.cells scope.names [])) s3.heap.objs.size X.env)) (compPost (model X.prog X.w) X.A X.xe use Qf (.ref D) s3.heap.objs.size) { s3 with heap := pushCells (s3.heap.push { cls := .type "dict", data := .dict #[] }) scope.names }
  have nfp : ∀ b ∈ fp, (upd H2 D (.lst [])) b = none := fun b hb => (f3 b hb).1.1
  generalize hce : compEnvC scope (cellsFrom (s3.heap.objs.size + 1) scope.names (cloFrom X.env.cells scope.names [])) s3.heap.objs.size X.env = ce at I4 pg pt pe ⊢
  have cL : ce.locals = s3.heap.objs.size := by subst hce; rfl
  generalize hH3 : upd H2 D (.lst []) = H3 at I3 I4 pg pt pe w0 nfp f3
  generalize hs4 : ({ s3 with heap := pushCells (s3.heap.push { cls := .type "dict", data := .dict #[] }) scope.names } : Shared) = s4 at I4 ⊢
  have st4 : tn 0 s4.heap := T.keep _ _ _ st3 fun b _ o e => by rw [← hs4]; exact pushCells_keeps _ _ _ _ (Heap.get?_push_of_some _ e)
  have stat : ∀ {σ' : St} {H' : Hp} {s' : Shared}, Inv (X.blkH s3 H3 scope ce fp) [] σ' H' s' → (∀ b ∈ fp, H' b = none) → ∀ b ∈ fp, FpOk (X.blkH s3 H3 scope ce fp) [] H' b := fun {σ' H' s'} I' hn b hb =>
    ⟨hn b hb, (I'.ok.exf b hb).1, I'.ok.exfs b hb, .inl hb, fun x c e => (I'.ok.exf b hb).2 x c e, fun p hp => (f3 b hb).1.2.2.2.2.2 p (List.mem_append_left _ ((List.mem_append.mp hp).elim id (fun z => absurd z (by simp))))⟩
  have loop : codeAny (model X.prog X.w) X.A (.compLoop (.ListComp elt [⟨tg, iter, ifs, 0⟩] scope pos) 0 (.ref it) (.ref D) ce) (compPost (model X.prog X.w) X.A X.xe use Qf (.ref D) s3.heap.objs.size) s4 := by
    refine compLoop_any (fun n s' => ∃ i H', Inv (X.blkH s3 H3 scope ce fp) [] (wipe σ (own.map (·.2))) H' s' ∧ tn i s'.heap ∧ (∀ b ∈ fp, H' b = none) ∧ W i n H') ?_ m0 ⟨0, H3, I4, st4, nfp, w0⟩
    rintro n s5 ⟨i, H5, I5, st5, n5, w5⟩
    rcases turn i n H5 w5 with ⟨stop, qq⟩ | ⟨go, Nx, hNx, step⟩
    · have td := T.done (X.blkH s3 H3 scope ce fp) rfl rfl rfl hc i [] s5 _ H5 (fun _ _ => False) I5 (stat I5 n5) st5 stop
      refine thnF td fun r s6 ⟨hr, I6⟩ => ?_
      subst hr
      -- back in the def's context
      have I7 : Inv X pins σ H5 s6 := I3.call' (ch := fp) I6.os I6.base I6.hok I6.bare fun b hb => ⟨(f3 b hb).1.2.2.2.1, (f3 b hb).1.2.1, (f3 b hb).1.2.2.2.2.1, (f3 b hb).1.2.2.2.2.2⟩
      have nC : H5 s3.heap.objs.size = none := by
        have z : H5 ce.locals = none := I6.free
        rw [cL] at z
        exact z
      obtain ⟨m, hn, _⟩ := I6.loc
      have hn : s6.heap.Ns ce.locals m := hn
      rw [cL] at hn
      exact hRR D s3.heap.objs.size s6 m H5 I7 qq hn (I3.fpOk (Nat.le_refl _) nC)
    · have ti := T.item (X.blkH s3 H3 scope ce fp) rfl rfl rfl hc i [] s5 _ H5 (fun _ _ => False) I5 (stat I5 n5) st5 go
      refine thnF ti fun r s6 ⟨u, hr, h6⟩ => ?_
      subst hr
      refine thnF h6 fun _ s7 ⟨x, H7, I7, r7, y7, st7, n7⟩ => ?_
      have I7' := I7.pinned (stat I7 n7) (T.obj _ _ st7)
      refine thnF (pg.run _ s7 _ H7 x u _ I7' r7 (step x H7 y7)) fun _ s8 ⟨σ8, H8, I8, hw8, q8⟩ => ?_
      refine thnF (pt.run _ s8 σ8 H8 _ I8 q8) fun b s9 ⟨H9, I9, q9⟩ => ?_
      -- the turn's end
      have fin : ∀ {s' : Shared} {H' : Hp}, Inv (X.blkH s3 H3 scope ce fp) ([] ++ pinsAt fp s7.heap) σ8 H' s' → Nx H' → ∃ m, m < n ∧ ∃ i H', Inv (X.blkH s3 H3 scope ce fp) [] (wipe σ (own.map (·.2))) H' s' ∧ tn i s'.heap ∧ (∀ b ∈ fp, H' b = none) ∧ W i m H' := fun {s' H'} I' nx => by
        obtain ⟨m', hm, w'⟩ := hNx H' nx
        have pin' : ∀ b ∈ fp, ∀ o, s7.heap.get? b = some o → s'.heap.get? b = some o ∧ H' b = none := fun b hb o e =>
          let z := I'.pin (b, o) (List.mem_append_right _ (List.mem_append_right _ (mem_pinsAt hb e)))
          ⟨z.1, z.2.1⟩
        have hl : (wipe σ (own.map (·.2))).length = σ8.length := by rw [← hw8, wipe_length]
        refine ⟨m', hm, i + 1, H', (I'.unpinned (pins := [])).weak hl (fun j v e => ?_), T.keep _ _ _ st7 fun b hb o e => (pin' b hb o e).1, fun b hb => ?_, w'⟩
        · rw [← hw8] at e
          exact (wipe_some e).1
        · obtain ⟨o, e, _⟩ := T.obj _ _ st7 b hb
          exact (pin' b hb o e).2
      cases b with
      | false =>
        simp only [Bool.false_eq_true, if_false] at q9 ⊢
        exact fin I9 q9
      | true =>
        simp only [if_true] at q9 ⊢
        refine thnF (pe.run _ s9 σ8 H9 _ I9 q9) fun z s10 ⟨yv, H10, I10, r10, acc, hD10, hz10, nx⟩ => ?_
        exact app_ok (X := X.blkH s3 H3 scope ce fp) I10 hD10 hz10 r10 fun s11 I11 => fin I11 nx
  exact codeAny_compStart_list loop (T.self X.A 0 _ _ _ st4 loop)

/-- as a value -/
theorem pe_lcH {elt tg iter : Expr} {ifs : List Expr} {scope : Scope} {own : List (Str × Nat)} {pos : Pos} {wi : TI} {g : TG} {tt : TT} {te : TE} (hc : HotC X) (hN : X.N.Nodup) (hi : PIH X tg iter wi) (ok : BlkOk X.N X.env.scope scope own)
    (hg : ∀ (s : Shared) (H : Hp) (C : Addr) (cl : List (Str × Addr)) (fp : List Addr), PG (X.blkH s H scope (compEnvC scope cl C X.env) fp) tg g) (ht : ∀ (s : Shared) (H : Hp) (C : Addr) (cl : List (Str × Addr)) (fp : List Addr), PTs (X.blkH s H scope (compEnvC scope cl C X.env) fp) ifs tt)
    (he : ∀ (s : Shared) (H : Hp) (C : Addr) (cl : List (Str × Addr)) (fp : List Addr), PE (X.blkH s H scope (compEnvC scope cl C X.env) fp) elt te) (hs : ∀ x, foldedSetIterable iter X.env x = pure x := by intro _; rfl) :
    PE X (.ListComp elt [⟨tg, iter, ifs, 0⟩] scope pos) (tLc wi g tt te (own.map (·.2))) := by
  refine ⟨fun pins s σ H Q I h => ?_⟩
  rw [eval_ListComp]
  refine lc_coreH hc hN I hi ok hg ht he hs h fun D C s' m H' I' q hn f => ⟨m, hn, fun h'' sb => ?_⟩
  obtain ⟨f0, f1, f2, f3, f4, f5⟩ := f
  exact ⟨.ref D, H', I'.turned (t' := s'.toks) (fun b o hb e => (sb.2 b hb).trans e) f0 f1 f3 f4 f5, rfl, q⟩
end
end L2E

set_option Elab.async false
set_option linter.all false
set_option maxRecDepth 100000
set_option maxHeartbeats 4000000
namespace W8
open PySem L2 L2E
theorem same_upd {H H' : Hp} {D : Addr} {o : HO} (s : Same H H') (n : H D = none) : Same H (upd H' D o) := fun b u e => by
  rw [upd_ne (ne_of_none e n)]
  exact s b u e
/-- the classes that _law_classes asks about, but the first -/
structure ClsT (mg : Str → Option Value) (c : Nat → Addr) : Prop where
  mToolError : mg "ToolError" = some (.ref (c 1))
  mLettersError : mg "LettersError" = some (.ref (c 2))
  mMixedLetters : mg "MixedLetters" = some (.ref (c 3))
  mTableError : mg "TableError" = some (.ref (c 4))
  mActionError : mg "ActionError" = some (.ref (c 5))
  mLassoError : mg "LassoError" = some (.ref (c 6))
  mLetterError : mg "LetterError" = some (.ref (c 7))
  mStateError : mg "StateError" = some (.ref (c 8))
  mRowError : mg "RowError" = some (.ref (c 9))
  mNotStarFree : mg "NotStarFree" = some (.ref (c 10))
  mTextError : mg "TextError" = some (.ref (c 11))
  mNameFault : mg "NameFault" = some (.ref (c 12))
  mLineError : mg "LineError" = some (.ref (c 13))
  mCountsError : mg "CountsError" = some (.ref (c 14))
  mLimitError : mg "LimitError" = some (.ref (c 15))
  mTooManyStates : mg "TooManyStates" = some (.ref (c 16))
  mTooManyActions : mg "TooManyActions" = some (.ref (c 17))
  mTooManyRows : mg "TooManyRows" = some (.ref (c 18))
def clsNames : List Str := ["ValueError", "ToolError", "LettersError", "MixedLetters", "TableError", "ActionError", "LassoError", "LetterError", "StateError", "RowError", "NotStarFree", "TextError", "NameFault", "LineError", "CountsError", "LimitError", "TooManyStates", "TooManyActions", "TooManyRows"]
def clsVals (c : Nat → Addr) : List Value := [.type "ValueError", .ref (c 1), .ref (c 2), .ref (c 3), .ref (c 4), .ref (c 5), .ref (c 6), .ref (c 7), .ref (c 8), .ref (c 9), .ref (c 10), .ref (c 11), .ref (c 12), .ref (c 13), .ref (c 14), .ref (c 15), .ref (c 16), .ref (c 17), .ref (c 18)]
/-- the exception of the class at D is of these classes -/
def IsOf (K : PySem.W.Frag) (c : Nat → Addr) (D : Addr) (bs : List Bool) : Prop := Paired (fun v b => PySem.W.kitOne K (.ref D) v = some b) (clsVals c) bs
def pick (ns : List Str) (bs : List Bool) : List Str := ((ns.zip bs).filter (·.2)).map (·.1)
abbrev sClasses : Stmt := top 64
theorem scClasses : FnScope ["e", "names", "flags", "k"] ["e"] (defScope sClasses) := ⟨rfl, rfl, rfl, by decide +kernel, rfl, by decide +kernel, by decide +kernel⟩
def spClasses (K : PySem.W.Frag) (c : Nat → Addr) : SpE := fun a cls d vs H Q _ => ∃ (D : Addr) (bs : List Bool), vs = [.ref a] ∧ cls = .ref D ∧ ExcC K D ∧ IsOf K c D bs ∧ (∀ dd, d = some dd → ∃ fs, H dd = some (.xd fs)) ∧
  ∀ l H', Same H H' → H' l = some (.lst ((pick clsNames bs).map V.str)) → Q (.ref l) H'
theorem pick_step {ns : List Str} {bs : List Bool} {i : Nat} {n : Str} {b : Bool} (h1 : ns[i]? = some n) (h2 : bs[i]? = some b) : ((((ns.zip bs).take (i + 1)).filter (·.2)).map (·.1)) = (((ns.zip bs).take i).filter (·.2)).map (·.1) ++ if b then [n] else [] := by
  have e : (ns.zip bs)[i]? = some (n, b) := by rw [List.getElem?_zip_eq_some]; exact ⟨h1, h2⟩
  rw [List.take_add_one, e, List.filter_append, List.map_append]
  cases b <;> rfl
theorem paired_cons {α β : Type} {R : α → β → Prop} {x : α} {xs : List α} {ys : List β} (h : Paired R (x :: xs) ys) : ∃ y zs, ys = y :: zs ∧ R x y ∧ Paired R xs zs := by
  cases h with
  | cons a b => exact ⟨_, _, rfl, a, b⟩
theorem paired_nil {α β : Type} {R : α → β → Prop} {ys : List β} (h : Paired R [] ys) : ys = [] := by
  cases h
  rfl
theorem xd_mono {H H' : Hp} {d : Option Addr} (s : Same H H') (h : ∀ dd, d = some dd → ∃ fs, H dd = some (.xd fs)) : ∀ dd, d = some dd → ∃ fs, H' dd = some (.xd fs) := fun dd e => by
  obtain ⟨fs, q⟩ := h dd e
  exact ⟨fs, s _ _ q⟩
section
variable {P : Program} {w : World} {K : PySem.W.Frag} {mg : Str → Option Value} {base : Heap}
theorem ok_classes {c : Nat → Addr} {f : Addr} {fd : FuncData} (F : Fun K "_law_classes" "_law_classes" sClasses f fd) (T : ClsT mg c) (S : SameT mg) (tv : mg "ValueError" = none) : FnE P w K mg base 1 f fd ["e"] (spClasses K c) := by
  obtain ⟨oc, od, kV, doc, pm, an, cdv, ct, osl, rfl, lk, hcd⟩ := F.ex
  refine fn_ofE lk hcd scClasses (fun a cls d vs H Q E h => ?_) (fun A outer s H vs Q E p cls d hot hz hr h => ?_)
  · obtain ⟨D, bs, rfl, _⟩ := h
    rfl
  obtain ⟨D, bs, rfl, rfl, hD, hbs, hd, q⟩ := h
  unfold IsOf clsVals at hbs
  obtain ⟨b0, bs, rfl, k0, hbs⟩ := paired_cons hbs
  obtain ⟨b1, bs, rfl, k1, hbs⟩ := paired_cons hbs
  obtain ⟨b2, bs, rfl, k2, hbs⟩ := paired_cons hbs
  obtain ⟨b3, bs, rfl, k3, hbs⟩ := paired_cons hbs
  obtain ⟨b4, bs, rfl, k4, hbs⟩ := paired_cons hbs
  obtain ⟨b5, bs, rfl, k5, hbs⟩ := paired_cons hbs
  obtain ⟨b6, bs, rfl, k6, hbs⟩ := paired_cons hbs
  obtain ⟨b7, bs, rfl, k7, hbs⟩ := paired_cons hbs
  obtain ⟨b8, bs, rfl, k8, hbs⟩ := paired_cons hbs
  obtain ⟨b9, bs, rfl, k9, hbs⟩ := paired_cons hbs
  obtain ⟨b10, bs, rfl, k10, hbs⟩ := paired_cons hbs
  obtain ⟨b11, bs, rfl, k11, hbs⟩ := paired_cons hbs
  obtain ⟨b12, bs, rfl, k12, hbs⟩ := paired_cons hbs
  obtain ⟨b13, bs, rfl, k13, hbs⟩ := paired_cons hbs
  obtain ⟨b14, bs, rfl, k14, hbs⟩ := paired_cons hbs
  obtain ⟨b15, bs, rfl, k15, hbs⟩ := paired_cons hbs
  obtain ⟨b16, bs, rfl, k16, hbs⟩ := paired_cons hbs
  obtain ⟨b17, bs, rfl, k17, hbs⟩ := paired_cons hbs
  obtain ⟨b18, bs, rfl, k18, hbs⟩ := paired_cons hbs
  obtain rfl := paired_nil hbs
  obtain ⟨fv, hfv, hctx⟩ := hot.2
  have hc : L2H.HotC (L2H.cxH CX0 P w K mg base ["e", "names", "flags", "k"] "_law_classes" (defScope sClasses) f cdv A outer s H E p) := ⟨p, ⟨hot.1, hot.2⟩, List.mem_cons_self⟩
  have isx : CallR (L2H.cxH CX0 P w K mg base ["e", "names", "flags", "k"] "_law_classes" (defScope sClasses) f cdv A outer s H E p) (.builtin "isinstance") (rIsX K D p.1 d) := call_isX hD hz.zc ⟨fv, hfv⟩ List.mem_cons_self
  refine ⟨_, (pss_cons (ps_set (i := 1) scClasses.nd rfl (Or.inr rfl) (pe_lst (pa_cons pe_str (pa_cons pe_str (pa_cons pe_str (pa_cons pe_str (pa_cons pe_str (pa_cons pe_str (pa_cons pe_str pa_nil)))))))))
    (pss_cons (ps_set (i := 2) scClasses.nd rfl (Or.inr rfl) (pe_lst (pa_cons (pe_callB isx (by rfl) S.isinstance (by decide +kernel) (pa_cons (pv 0) (pa_cons (pe_bltn (v := .ty "ValueError") (by rfl) tv (by decide +kernel) rfl) pa_nil))) (pa_cons (pe_callB isx (by rfl) S.isinstance (by decide +kernel) (pa_cons (pv 0) (pa_cons (pe_glob (v := .ref (c 1)) rfl T.mToolError rfl) pa_nil))) (pa_cons (pe_callB isx (by rfl) S.isinstance (by decide +kernel) (pa_cons (pv 0) (pa_cons (pe_glob (v := .ref (c 2)) rfl T.mLettersError rfl) pa_nil))) pa_nil)))))
    (pss_cons (ps_set (i := 2) scClasses.nd rfl (Or.inr rfl) (pe_op op_cat (pv 2) (pe_lst (pa_cons (pe_callB isx (by rfl) S.isinstance (by decide +kernel) (pa_cons (pv 0) (pa_cons (pe_glob (v := .ref (c 3)) rfl T.mMixedLetters rfl) pa_nil))) (pa_cons (pe_callB isx (by rfl) S.isinstance (by decide +kernel) (pa_cons (pv 0) (pa_cons (pe_glob (v := .ref (c 4)) rfl T.mTableError rfl) pa_nil))) (pa_cons (pe_callB isx (by rfl) S.isinstance (by decide +kernel) (pa_cons (pv 0) (pa_cons (pe_glob (v := .ref (c 5)) rfl T.mActionError rfl) pa_nil))) pa_nil))))))
    (pss_cons (ps_set (i := 2) scClasses.nd rfl (Or.inr rfl) (pe_op op_cat (pv 2) (pe_lst (pa_cons (pe_callB isx (by rfl) S.isinstance (by decide +kernel) (pa_cons (pv 0) (pa_cons (pe_glob (v := .ref (c 6)) rfl T.mLassoError rfl) pa_nil))) pa_nil))))
    (pss_cons (ps_set (i := 1) scClasses.nd rfl (Or.inr rfl) (pe_op op_cat (pv 1) (pe_lst (pa_cons pe_str (pa_cons pe_str (pa_cons pe_str (pa_cons pe_str (pa_cons pe_str (pa_cons pe_str (pa_cons pe_str pa_nil))))))))))
    (pss_cons (ps_set (i := 2) scClasses.nd rfl (Or.inr rfl) (pe_op op_cat (pv 2) (pe_lst (pa_cons (pe_callB isx (by rfl) S.isinstance (by decide +kernel) (pa_cons (pv 0) (pa_cons (pe_glob (v := .ref (c 7)) rfl T.mLetterError rfl) pa_nil))) (pa_cons (pe_callB isx (by rfl) S.isinstance (by decide +kernel) (pa_cons (pv 0) (pa_cons (pe_glob (v := .ref (c 8)) rfl T.mStateError rfl) pa_nil))) (pa_cons (pe_callB isx (by rfl) S.isinstance (by decide +kernel) (pa_cons (pv 0) (pa_cons (pe_glob (v := .ref (c 9)) rfl T.mRowError rfl) pa_nil))) pa_nil))))))
    (pss_cons (ps_set (i := 2) scClasses.nd rfl (Or.inr rfl) (pe_op op_cat (pv 2) (pe_lst (pa_cons (pe_callB isx (by rfl) S.isinstance (by decide +kernel) (pa_cons (pv 0) (pa_cons (pe_glob (v := .ref (c 10)) rfl T.mNotStarFree rfl) pa_nil))) (pa_cons (pe_callB isx (by rfl) S.isinstance (by decide +kernel) (pa_cons (pv 0) (pa_cons (pe_glob (v := .ref (c 11)) rfl T.mTextError rfl) pa_nil))) (pa_cons (pe_callB isx (by rfl) S.isinstance (by decide +kernel) (pa_cons (pv 0) (pa_cons (pe_glob (v := .ref (c 12)) rfl T.mNameFault rfl) pa_nil))) pa_nil))))))
    (pss_cons (ps_set (i := 2) scClasses.nd rfl (Or.inr rfl) (pe_op op_cat (pv 2) (pe_lst (pa_cons (pe_callB isx (by rfl) S.isinstance (by decide +kernel) (pa_cons (pv 0) (pa_cons (pe_glob (v := .ref (c 13)) rfl T.mLineError rfl) pa_nil))) pa_nil))))
    (pss_cons (ps_set (i := 1) scClasses.nd rfl (Or.inr rfl) (pe_op op_cat (pv 1) (pe_lst (pa_cons pe_str (pa_cons pe_str (pa_cons pe_str (pa_cons pe_str (pa_cons pe_str pa_nil))))))))
    (pss_cons (ps_set (i := 2) scClasses.nd rfl (Or.inr rfl) (pe_op op_cat (pv 2) (pe_lst (pa_cons (pe_callB isx (by rfl) S.isinstance (by decide +kernel) (pa_cons (pv 0) (pa_cons (pe_glob (v := .ref (c 14)) rfl T.mCountsError rfl) pa_nil))) (pa_cons (pe_callB isx (by rfl) S.isinstance (by decide +kernel) (pa_cons (pv 0) (pa_cons (pe_glob (v := .ref (c 15)) rfl T.mLimitError rfl) pa_nil))) (pa_cons (pe_callB isx (by rfl) S.isinstance (by decide +kernel) (pa_cons (pv 0) (pa_cons (pe_glob (v := .ref (c 16)) rfl T.mTooManyStates rfl) pa_nil))) pa_nil))))))
    (pss_cons (ps_set (i := 2) scClasses.nd rfl (Or.inr rfl) (pe_op op_cat (pv 2) (pe_lst (pa_cons (pe_callB isx (by rfl) S.isinstance (by decide +kernel) (pa_cons (pv 0) (pa_cons (pe_glob (v := .ref (c 17)) rfl T.mTooManyActions rfl) pa_nil))) (pa_cons (pe_callB isx (by rfl) S.isinstance (by decide +kernel) (pa_cons (pv 0) (pa_cons (pe_glob (v := .ref (c 18)) rfl T.mTooManyRows rfl) pa_nil))) pa_nil)))))
    (pss_one (ps_ret (pe_lcH (own := [("k", 3)]) (g := gName 3) (tt := tTest (tOp (rIxL K) (tVar 2) (tVar 3))) hc scClasses.nd (L2H.pi_range1H (by rfl) S.range (pa_cons (pB1 call_len_seq S.len (pv 1)) pa_nil)) (blkOk_by (own := [("k", 3)]) (N := ["e", "names", "flags", "k"]) (sc := defScope sClasses) (by decide +kernel)) (fun _ _ _ _ _ => (pg_name (i := 3) scClasses.nd rfl (Or.inl rfl))) (fun _ _ _ _ _ => (pts_one (pt_val (pe_ix (r := rIxL K) ix_list (pv 2) (pv 3) (fun _ _ => rfl))))) (fun _ _ _ _ _ => (pe_ix (r := rIxL K) ix_list (pv 1) (pv 3) (fun _ _ => rfl))))))))))))))))), ?_⟩
  refine ⟨by show 7 ≤ sizeLine; decide, fun l0 hl0 => ?_⟩
  generalize eq1 : upd H l0 _ = H1
  have s1 : Same H H1 := eq1 ▸ same_new hl0 _
  have h1 : H1 l0 = some (.lst [.str "ValueError", .str "ToolError", .str "LettersError", .str "MixedLetters", .str "TableError", .str "ActionError", .str "LassoError"]) := eq1 ▸ upd_same
  have t1 : Same H H1 := s1
  clear eq1 hl0
  refine ⟨_, rfl, _, _, _, rfl, (fun _ r => r), k0, (xd_mono t1 hd), _, rfl, _, _, _, rfl, (fun _ r => r), k1, (xd_mono t1 hd), _, rfl, _, _, _, rfl, (fun _ r => r), k2, (xd_mono t1 hd), by show 3 ≤ sizeLine; decide, fun l1 hl1 => ?_⟩
  generalize eq2 : upd H1 l1 _ = H2
  have s2 : Same H1 H2 := eq2 ▸ same_new hl1 _
  have h2 : H2 l1 = some (.lst [.bl b0, .bl b1, .bl b2]) := eq2 ▸ upd_same
  have t2 : Same H H2 := t1.trans s2
  clear eq2 hl1
  have g3 := s2 _ _ h1
  refine ⟨_, rfl, _, rfl, _, _, _, rfl, (fun _ r => r), k3, (xd_mono t2 hd), _, rfl, _, _, _, rfl, (fun _ r => r), k4, (xd_mono t2 hd), _, rfl, _, _, _, rfl, (fun _ r => r), k5, (xd_mono t2 hd), by show 3 ≤ sizeLine; decide, fun l2 hl2 => ?_⟩
  generalize eq4 : upd H2 l2 _ = H4
  have s4 : Same H2 H4 := eq4 ▸ same_new hl2 _
  have h4 : H4 l2 = some (.lst [.bl b3, .bl b4, .bl b5]) := eq4 ▸ upd_same
  have t4 : Same H H4 := t2.trans s4
  clear eq4 hl2
  have g5 := s4 _ _ g3
  have g6 := s4 _ _ h2
  refine ⟨l1, l2, [.bl b0, .bl b1, .bl b2], [.bl b3, .bl b4, .bl b5], rfl, rfl, g6, h4, by show 6 ≤ sizeLine; decide, fun r2 hr2 => ?_⟩
  generalize eq7 : upd H4 r2 _ = H7
  have s7 : Same H4 H7 := eq7 ▸ same_new hr2 _
  have h7 : H7 r2 = some (.lst [.bl b0, .bl b1, .bl b2, .bl b3, .bl b4, .bl b5]) := eq7 ▸ upd_same
  have t7 : Same H H7 := t4.trans s7
  clear eq7 hr2
  have g8 := s7 _ _ g5
  refine ⟨_, rfl, _, rfl, _, _, _, rfl, (fun _ r => r), k6, (xd_mono t7 hd), by show 1 ≤ sizeLine; decide, fun l3 hl3 => ?_⟩
  generalize eq9 : upd H7 l3 _ = H9
  have s9 : Same H7 H9 := eq9 ▸ same_new hl3 _
  have h9 : H9 l3 = some (.lst [.bl b6]) := eq9 ▸ upd_same
  have t9 : Same H H9 := t7.trans s9
  clear eq9 hl3
  have g10 := s9 _ _ g8
  have g11 := s9 _ _ h7
  refine ⟨r2, l3, [.bl b0, .bl b1, .bl b2, .bl b3, .bl b4, .bl b5], [.bl b6], rfl, rfl, g11, h9, by show 7 ≤ sizeLine; decide, fun r3 hr3 => ?_⟩
  generalize eq12 : upd H9 r3 _ = H12
  have s12 : Same H9 H12 := eq12 ▸ same_new hr3 _
  have h12 : H12 r3 = some (.lst [.bl b0, .bl b1, .bl b2, .bl b3, .bl b4, .bl b5, .bl b6]) := eq12 ▸ upd_same
  have t12 : Same H H12 := t9.trans s12
  clear eq12 hr3
  have g13 := s12 _ _ g10
  refine ⟨_, rfl, by show 7 ≤ sizeLine; decide, fun l4 hl4 => ?_⟩
  generalize eq14 : upd H12 l4 _ = H14
  have s14 : Same H12 H14 := eq14 ▸ same_new hl4 _
  have h14 : H14 l4 = some (.lst [.str "LetterError", .str "StateError", .str "RowError", .str "NotStarFree", .str "TextError", .str "NameFault", .str "LineError"]) := eq14 ▸ upd_same
  have t14 : Same H H14 := t12.trans s14
  clear eq14 hl4
  have g15 := s14 _ _ g13
  have g16 := s14 _ _ h12
  refine ⟨l0, l4, [.str "ValueError", .str "ToolError", .str "LettersError", .str "MixedLetters", .str "TableError", .str "ActionError", .str "LassoError"], [.str "LetterError", .str "StateError", .str "RowError", .str "NotStarFree", .str "TextError", .str "NameFault", .str "LineError"], rfl, rfl, g15, h14, by show 14 ≤ sizeLine; decide, fun r4 hr4 => ?_⟩
  generalize eq17 : upd H14 r4 _ = H17
  have s17 : Same H14 H17 := eq17 ▸ same_new hr4 _
  have h17 : H17 r4 = some (.lst [.str "ValueError", .str "ToolError", .str "LettersError", .str "MixedLetters", .str "TableError", .str "ActionError", .str "LassoError", .str "LetterError", .str "StateError", .str "RowError", .str "NotStarFree", .str "TextError", .str "NameFault", .str "LineError"]) := eq17 ▸ upd_same
  have t17 : Same H H17 := t14.trans s17
  clear eq17 hr4
  have g18 := s17 _ _ g16
  refine ⟨_, rfl, _, rfl, _, _, _, rfl, (fun _ r => r), k7, (xd_mono t17 hd), _, rfl, _, _, _, rfl, (fun _ r => r), k8, (xd_mono t17 hd), _, rfl, _, _, _, rfl, (fun _ r => r), k9, (xd_mono t17 hd), by show 3 ≤ sizeLine; decide, fun l5 hl5 => ?_⟩
  generalize eq19 : upd H17 l5 _ = H19
  have s19 : Same H17 H19 := eq19 ▸ same_new hl5 _
  have h19 : H19 l5 = some (.lst [.bl b7, .bl b8, .bl b9]) := eq19 ▸ upd_same
  have t19 : Same H H19 := t17.trans s19
  clear eq19 hl5
  have g20 := s19 _ _ h17
  have g21 := s19 _ _ g18
  refine ⟨r3, l5, [.bl b0, .bl b1, .bl b2, .bl b3, .bl b4, .bl b5, .bl b6], [.bl b7, .bl b8, .bl b9], rfl, rfl, g21, h19, by show 10 ≤ sizeLine; decide, fun r5 hr5 => ?_⟩
  generalize eq22 : upd H19 r5 _ = H22
  have s22 : Same H19 H22 := eq22 ▸ same_new hr5 _
  have h22 : H22 r5 = some (.lst [.bl b0, .bl b1, .bl b2, .bl b3, .bl b4, .bl b5, .bl b6, .bl b7, .bl b8, .bl b9]) := eq22 ▸ upd_same
  have t22 : Same H H22 := t19.trans s22
  clear eq22 hr5
  have g23 := s22 _ _ g20
  refine ⟨_, rfl, _, rfl, _, _, _, rfl, (fun _ r => r), k10, (xd_mono t22 hd), _, rfl, _, _, _, rfl, (fun _ r => r), k11, (xd_mono t22 hd), _, rfl, _, _, _, rfl, (fun _ r => r), k12, (xd_mono t22 hd), by show 3 ≤ sizeLine; decide, fun l6 hl6 => ?_⟩
  generalize eq24 : upd H22 l6 _ = H24
  have s24 : Same H22 H24 := eq24 ▸ same_new hl6 _
  have h24 : H24 l6 = some (.lst [.bl b10, .bl b11, .bl b12]) := eq24 ▸ upd_same
  have t24 : Same H H24 := t22.trans s24
  clear eq24 hl6
  have g25 := s24 _ _ g23
  have g26 := s24 _ _ h22
  refine ⟨r5, l6, [.bl b0, .bl b1, .bl b2, .bl b3, .bl b4, .bl b5, .bl b6, .bl b7, .bl b8, .bl b9], [.bl b10, .bl b11, .bl b12], rfl, rfl, g26, h24, by show 13 ≤ sizeLine; decide, fun r6 hr6 => ?_⟩
  generalize eq27 : upd H24 r6 _ = H27
  have s27 : Same H24 H27 := eq27 ▸ same_new hr6 _
  have h27 : H27 r6 = some (.lst [.bl b0, .bl b1, .bl b2, .bl b3, .bl b4, .bl b5, .bl b6, .bl b7, .bl b8, .bl b9, .bl b10, .bl b11, .bl b12]) := eq27 ▸ upd_same
  have t27 : Same H H27 := t24.trans s27
  clear eq27 hr6
  have g28 := s27 _ _ g25
  refine ⟨_, rfl, _, rfl, _, _, _, rfl, (fun _ r => r), k13, (xd_mono t27 hd), by show 1 ≤ sizeLine; decide, fun l7 hl7 => ?_⟩
  generalize eq29 : upd H27 l7 _ = H29
  have s29 : Same H27 H29 := eq29 ▸ same_new hl7 _
  have h29 : H29 l7 = some (.lst [.bl b13]) := eq29 ▸ upd_same
  have t29 : Same H H29 := t27.trans s29
  clear eq29 hl7
  have g30 := s29 _ _ g28
  have g31 := s29 _ _ h27
  refine ⟨r6, l7, [.bl b0, .bl b1, .bl b2, .bl b3, .bl b4, .bl b5, .bl b6, .bl b7, .bl b8, .bl b9, .bl b10, .bl b11, .bl b12], [.bl b13], rfl, rfl, g31, h29, by show 14 ≤ sizeLine; decide, fun r7 hr7 => ?_⟩
  generalize eq32 : upd H29 r7 _ = H32
  have s32 : Same H29 H32 := eq32 ▸ same_new hr7 _
  have h32 : H32 r7 = some (.lst [.bl b0, .bl b1, .bl b2, .bl b3, .bl b4, .bl b5, .bl b6, .bl b7, .bl b8, .bl b9, .bl b10, .bl b11, .bl b12, .bl b13]) := eq32 ▸ upd_same
  have t32 : Same H H32 := t29.trans s32
  clear eq32 hr7
  have g33 := s32 _ _ g30
  refine ⟨_, rfl, by show 5 ≤ sizeLine; decide, fun l8 hl8 => ?_⟩
  generalize eq34 : upd H32 l8 _ = H34
  have s34 : Same H32 H34 := eq34 ▸ same_new hl8 _
  have h34 : H34 l8 = some (.lst [.str "CountsError", .str "LimitError", .str "TooManyStates", .str "TooManyActions", .str "TooManyRows"]) := eq34 ▸ upd_same
  have t34 : Same H H34 := t32.trans s34
  clear eq34 hl8
  have g35 := s34 _ _ g33
  have g36 := s34 _ _ h32
  refine ⟨r4, l8, [.str "ValueError", .str "ToolError", .str "LettersError", .str "MixedLetters", .str "TableError", .str "ActionError", .str "LassoError", .str "LetterError", .str "StateError", .str "RowError", .str "NotStarFree", .str "TextError", .str "NameFault", .str "LineError"], [.str "CountsError", .str "LimitError", .str "TooManyStates", .str "TooManyActions", .str "TooManyRows"], rfl, rfl, g35, h34, by show 19 ≤ sizeLine; decide, fun r8 hr8 => ?_⟩
  generalize eq37 : upd H34 r8 _ = H37
  have s37 : Same H34 H37 := eq37 ▸ same_new hr8 _
  have h37 : H37 r8 = some (.lst [.str "ValueError", .str "ToolError", .str "LettersError", .str "MixedLetters", .str "TableError", .str "ActionError", .str "LassoError", .str "LetterError", .str "StateError", .str "RowError", .str "NotStarFree", .str "TextError", .str "NameFault", .str "LineError", .str "CountsError", .str "LimitError", .str "TooManyStates", .str "TooManyActions", .str "TooManyRows"]) := eq37 ▸ upd_same
  have t37 : Same H H37 := t34.trans s37
  clear eq37 hr8
  have g38 := s37 _ _ g36
  refine ⟨_, rfl, _, rfl, _, _, _, rfl, (fun _ r => r), k14, (xd_mono t37 hd), _, rfl, _, _, _, rfl, (fun _ r => r), k15, (xd_mono t37 hd), _, rfl, _, _, _, rfl, (fun _ r => r), k16, (xd_mono t37 hd), by show 3 ≤ sizeLine; decide, fun l9 hl9 => ?_⟩
  generalize eq39 : upd H37 l9 _ = H39
  have s39 : Same H37 H39 := eq39 ▸ same_new hl9 _
  have h39 : H39 l9 = some (.lst [.bl b14, .bl b15, .bl b16]) := eq39 ▸ upd_same
  have t39 : Same H H39 := t37.trans s39
  clear eq39 hl9
  have g40 := s39 _ _ h37
  have g41 := s39 _ _ g38
  refine ⟨r7, l9, [.bl b0, .bl b1, .bl b2, .bl b3, .bl b4, .bl b5, .bl b6, .bl b7, .bl b8, .bl b9, .bl b10, .bl b11, .bl b12, .bl b13], [.bl b14, .bl b15, .bl b16], rfl, rfl, g41, h39, by show 17 ≤ sizeLine; decide, fun r9 hr9 => ?_⟩
  generalize eq42 : upd H39 r9 _ = H42
  have s42 : Same H39 H42 := eq42 ▸ same_new hr9 _
  have h42 : H42 r9 = some (.lst [.bl b0, .bl b1, .bl b2, .bl b3, .bl b4, .bl b5, .bl b6, .bl b7, .bl b8, .bl b9, .bl b10, .bl b11, .bl b12, .bl b13, .bl b14, .bl b15, .bl b16]) := eq42 ▸ upd_same
  have t42 : Same H H42 := t39.trans s42
  clear eq42 hr9
  have g43 := s42 _ _ g40
  refine ⟨_, rfl, _, rfl, _, _, _, rfl, (fun _ r => r), k17, (xd_mono t42 hd), _, rfl, _, _, _, rfl, (fun _ r => r), k18, (xd_mono t42 hd), by show 2 ≤ sizeLine; decide, fun l10 hl10 => ?_⟩
  generalize eq44 : upd H42 l10 _ = H44
  have s44 : Same H42 H44 := eq44 ▸ same_new hl10 _
  have h44 : H44 l10 = some (.lst [.bl b17, .bl b18]) := eq44 ▸ upd_same
  have t44 : Same H H44 := t42.trans s44
  clear eq44 hl10
  have g45 := s44 _ _ g43
  have g46 := s44 _ _ h42
  refine ⟨r9, l10, [.bl b0, .bl b1, .bl b2, .bl b3, .bl b4, .bl b5, .bl b6, .bl b7, .bl b8, .bl b9, .bl b10, .bl b11, .bl b12, .bl b13, .bl b14, .bl b15, .bl b16], [.bl b17, .bl b18], rfl, rfl, g46, h44, by show 19 ≤ sizeLine; decide, fun r10 hr10 => ?_⟩
  generalize eq47 : upd H44 r10 _ = H47
  have s47 : Same H44 H47 := eq47 ▸ same_new hr10 _
  have h47 : H47 r10 = some (.lst [.bl b0, .bl b1, .bl b2, .bl b3, .bl b4, .bl b5, .bl b6, .bl b7, .bl b8, .bl b9, .bl b10, .bl b11, .bl b12, .bl b13, .bl b14, .bl b15, .bl b16, .bl b17, .bl b18]) := eq47 ▸ upd_same
  have t47 : Same H H47 := t44.trans s47
  clear eq47 hr10
  have g48 := s47 _ _ g45

  have bsl : [b0, b1, b2, b3, b4, b5, b6, b7, b8, b9, b10, b11, b12, b13, b14, b15, b16, b17, b18].length = 19 := rfl
  have hFl : ∀ {Hc : Hp}, Hc r10 = some (.lst [.bl b0, .bl b1, .bl b2, .bl b3, .bl b4, .bl b5, .bl b6, .bl b7, .bl b8, .bl b9, .bl b10, .bl b11, .bl b12, .bl b13, .bl b14, .bl b15, .bl b16, .bl b17, .bl b18]) → Hc r8 = some (.lst (clsNames.map V.str)) → Same H Hc → (tLc (iRng1 (tCons (tCB (rLenOf K) (tCons (tVar 1) tNil)) tNil)) (gName 3) (tTest (tOp (rIxL K) (tVar 2) (tVar 3))) (tOp (rIxL K) (tVar 1) (tVar 3)) [3]) [some (.ref p.1), some (.ref r8), some (.ref r10), none] Hc Q := by
    intro Hc hF hN sH
    refine ⟨_, rfl, r8, _, rfl, .inl (SqL.of hN), _, rfl, by decide, by decide, fun R hR => ?_⟩
    refine walk_r (fun i H' => Same Hc H' ∧ H' R = some (.lst (((((clsNames.zip [b0, b1, b2, b3, b4, b5, b6, b7, b8, b9, b10, b11, b12, b13, b14, b15, b16, b17, b18]).take i).filter (·.2)).map (·.1)).map V.str))) ⟨same_new hR _, upd_same⟩ ?_ ?_
    · rintro i H1 hi ⟨s1, hR1⟩
      have hi19 : i < 19 := hi
      obtain ⟨b, hb⟩ : ∃ b, [b0, b1, b2, b3, b4, b5, b6, b7, b8, b9, b10, b11, b12, b13, b14, b15, b16, b17, b18][i]? = some b := ⟨_, List.getElem?_eq_getElem (by show i < 19; exact hi19)⟩
      obtain ⟨n, hn⟩ : ∃ n, clsNames[i]? = some n := ⟨_, List.getElem?_eq_getElem (by show i < 19; exact hi19)⟩
      have e1 : V.int (0 + (i : Int)) = V.int (i : Int) := by rw [Int.zero_add]
      refine ⟨rfl, ?_⟩
      refine ⟨_, rfl, _, rfl, r10, _, _, .bl b, rfl, e1, SqL.of (s1 _ _ hF), atI_nat (by show ([b0, b1, b2, b3, b4, b5, b6, b7, b8, b9, b10, b11, b12, b13, b14, b15, b16, b17, b18].map V.bl)[i]? = _; rw [List.getElem?_map, hb]; rfl), b, rfl, ?_⟩
      have ps := pick_step hn hb
      cases b with
      | false =>
        refine ⟨s1, ?_⟩
        rw [hR1, ps]
        simp
      | true =>
        refine ⟨_, rfl, _, rfl, r8, _, _, .str n, rfl, e1, SqL.of (s1 _ _ hN), atI_nat (by rw [List.getElem?_map, hn]; rfl), _, hR1, small_lt ?_, same_upd s1 hR, ?_⟩
        · rw [List.length_map, List.length_map]
          refine Nat.lt_of_le_of_lt (List.length_filter_le _ _) ?_
          rw [List.length_take]
          omega
        · rw [upd_same, ps, List.map_append]
          rfl
    · rintro H1 ⟨s1, hR1⟩
      refine q R H1 (sH.trans s1) ?_
      rw [hR1]
      rfl
  exact hFl h47 g48 t47
end
end W8

set_option Elab.async false
set_option linter.all false
set_option maxRecDepth 100000
set_option maxHeartbeats 4000000
/-! special methods of own classes, by the hand layer -/
namespace L2
open PySem PySem.Spec PyProof.Rows
section
variable {X : Cx} {CX : CXT} {k : Nat} {C f : Addr} {fd : FuncData} {ps : List Str} {sp : Sp} {E : XK}
/-- o[i] = v by __setitem__ -/
def rSetO (C : Addr) (sp : Sp) (E : XK) : TSet := fun o i v H Q => ∃ a dx fs, o = .ref a ∧ H a = some (.ins C dx fs) ∧ sp [.ref a, i, v] H (fun _ H' => Q H') E
theorem set_own (F : FnOk X.prog X.w X.K X.mg X.base CX k f fd ps sp) (hm : Meth X.K C "__setitem__" f) (hq : PySem.W.noSeq X.K C = true) (hb : Binds X.K fd ps []) (hx : Passes CX X E) (hr : Room k X.A) : PSet X (rSetO C sp E) := by
  intro pins s σ H o i v ov iv u Q I ro ri rv h
  obtain ⟨a, dx, fs, rfl, ha, hsp⟩ := h
  cases ro
  obtain ⟨mA, J, _⟩ := ins_get I.hok ha
  obtain ⟨od, J, _⟩ := J.look
  obtain ⟨m, hF⟩ := I.fr
  refine PySem.W.ksp_setItem hF I.ok.mod.kin J hq hm.at_ hm.fn ?_
  exact wpAny_mono (run_fn (ds := []) (dvs := []) (vs := [.ref a, i, v]) F hr hb .nil hx I (.cons rfl (.cons ri (.cons rv .nil))) (by simpa using hsp)) (fun r s' ⟨z, H', I', _, q⟩ => ⟨H', I', q⟩) fun _ _ z => z
/-- o[i] by __getitem__ -/
def rIxO (C : Addr) (sp : Sp) (E : XK) : R2 := fun o i H Q => ∃ a dx fs, o = .ref a ∧ H a = some (.ins C dx fs) ∧ sp [.ref a, i] H Q E
/-- x in o by __contains__ -/
def rInO (neg : Bool) (C : Addr) (sp : Sp) (E : XK) : R2 := fun x o H Q => ∃ a dx fs, o = .ref a ∧ H a = some (.ins C dx fs) ∧ sp [.ref a, x] H (fun v H' => ∃ b, v = .bl b ∧ Q (.bl (if neg = true then !b else b)) H') E
theorem op_in_own (F : FnOk X.prog X.w X.K X.mg X.base CX k f fd ps sp) (hm : Meth X.K C "__contains__" f) (hb : Binds X.K fd ps []) (hx : Passes CX X E) (hr : Room k X.A) : OpR X (compareOp .In) (rInO false C sp E) := by
  intro pins s σ H x o v u Q I rx ro h
  obtain ⟨a, dx, fs, rfl, ha, hsp⟩ := h
  cases ro
  obtain ⟨mA, J, _⟩ := ins_get I.hok ha
  obtain ⟨od, J, _⟩ := J.look
  obtain ⟨m, hF⟩ := I.fr
  refine PySem.W.in_K hF I.ok.mod.kin J hm.at_ hm.fn ?_
  refine wpAny_mono (run_fn (ds := []) (dvs := []) (vs := [.ref a, x]) (Q := fun v H' => ∃ b, v = .bl b ∧ Q (.bl (b)) H') F hr hb .nil hx I (.cons rfl (.cons rx .nil)) (by simpa using hsp)) (fun r s' ⟨z, H', I', rz, b, ez, q⟩ => ?_) fun _ _ z => z
  subst ez
  cases rz
  exact wpAny_pure ⟨.bl b, H', I', rfl, q⟩
theorem op_notIn_own (F : FnOk X.prog X.w X.K X.mg X.base CX k f fd ps sp) (hm : Meth X.K C "__contains__" f) (hb : Binds X.K fd ps []) (hx : Passes CX X E) (hr : Room k X.A) : OpR X (compareOp .NotIn) (rInO true C sp E) := by
  intro pins s σ H x o v u Q I rx ro h
  obtain ⟨a, dx, fs, rfl, ha, hsp⟩ := h
  cases ro
  obtain ⟨mA, J, _⟩ := ins_get I.hok ha
  obtain ⟨od, J, _⟩ := J.look
  obtain ⟨m, hF⟩ := I.fr
  refine PySem.W.notIn_K hF I.ok.mod.kin J hm.at_ hm.fn ?_
  refine wpAny_mono (run_fn (ds := []) (dvs := []) (vs := [.ref a, x]) (Q := fun v H' => ∃ b, v = .bl b ∧ Q (.bl (!b)) H') F hr hb .nil hx I (.cons rfl (.cons rx .nil)) (by simpa using hsp)) (fun r s' ⟨z, H', I', rz, b, ez, q⟩ => ?_) fun _ _ z => z
  subst ez
  cases rz
  exact wpAny_pure ⟨.bl (!b), H', I', rfl, q⟩
end
/-! ### iter(d) as a value, d a locked dict -/
def kitObj (d : Addr) (n ep : Nat) : Obj := { cls := .type "dict_keyiterator", data := .fields #[.ref d, .int 0 0, .int n 0, .int ep 0] }
/-- at it the iterator over the keys of the dict o at d -/
def KitO (d it : Addr) (o : Obj) : HO := .ext fun h => ∃ es ep, o.data = .dict es ep ∧ h.get? it = some (kitObj d es.size ep)
def rIterD (n : Nat) : List V → Hp → VK → Prop := fun xs H Q => ∃ (d : Addr) (o : Obj) (kvs : List (Key × V)), xs = [.ref d] ∧ H d = some (.frz o (.dK kvs)) ∧ ∀ it, H it = none → n ≤ it → Q (.ref it) (upd H it (KitO d it o))
theorem kitO_ok {P : Program} {w : World} {H : Hp} {h : Heap} {d it : Addr} {o : Obj} {es : Array DictEntry} {ep : Nat} (hd : o.data = .dict es ep) (e : h.get? it = some (kitObj d es.size ep)) : ObjOk P w H h it (KitO d it o) :=
  ⟨⟨es, ep, hd, e⟩, ⟨_, e⟩, fun h1 h2 ⟨es1, ep1, q1, q⟩ k => ⟨es1, ep1, q1, k _ q⟩⟩
theorem call_iterD {X : Cx} : CallR X (.builtin "iter") (rIterD X.s_0.heap.objs.size) := by
  intro pins s σ H xs us Q I r h
  obtain ⟨d, o, kvs, rfl, hd, q⟩ := h
  obtain rfl := Vals.ref1 r
  obtain ⟨hs, hgd, hx, es, ep, vs, hdt, hsz, kv, hm⟩ := I.frzK hd
  refine Calls.call_function_entry (by decide +kernel) (by decide +kernel) PySem.W.kdk_entry_iter (PySem.W.kdk_args_iter _) ?_
  unfold Builtin.«iter»
  refine wpAny_bind (m := someArgs "iter" 1 2 _) (wpAny_of_eq (a := [Value.ref d]) (by first | rfl | kernel_rfl!) ?_)
  show wpAny _ _ (pyIter (.ref d) >>= _) _ _ _
  refine wpAny_bind (iter_keys hs hgd hx hdt ?_)
  refine wpAny_pure ⟨_, rfl, ?_⟩
  exact ⟨.ref s.heap.objs.size, _, I.laid (t' := s.toks) (fun b u e => Heap.get?_push_of_some _ e) (Nat.le_refl _) (kitO_ok hdt (Heap.get?_push_size _ rfl)), rfl, q _ (I.hok.fresh (Nat.le_refl _)) I.sz⟩
/-! ### a promise that may speak of how many objects there are -/
structure FnAt (P : Program) (w : World) (K : PySem.W.Frag) (mg : Str → Option Value) (base : Heap) (CX : CXT) (k : Nat) (f : Addr) (fd : FuncData) (ps : List Str) (sp : Nat → Sp) : Prop where
  len : ∀ n vs H Q E, sp n vs H Q E → vs.length = ps.length
  run : ∀ (A : Around) (outer : List Env) (s : Shared) (H : Hp) (args : Args) (us : List Value) (vs : List V) (Q : VK) (E : XK), Room k A → Env0 P w K mg base A outer s H → BindsTo s fd args (ps.zip us) → Vals vs us → sp s.heap.objs.size vs H Q E →
    codeAny (model P w) A (.call (.ref f) args) (CR CX outer P w H s Q E) s
theorem fn_at {CX : CXT} {P : Program} {w : World} {K : PySem.W.Frag} {mg : Str → Option Value} {base : Heap} {k : Nat} {f : Addr} {name qual : Str} {params : Arguments} {body : List Stmt} {scope : Scope} {dV kV doc pm cdv ct oc : Value} {an od : Option Addr}
    {osl : Array (Option Value)} {N ps : List Str} {sp : Nat → Sp} (lk : K.lookup f = some ⟨oc, od, .func (PySem.W.fnOf name qual params body scope dV kV doc pm an cdv ct), osl⟩) (hcd : PySem.W.codeIn K cdv qual = true) (S : FnScope N ps scope)
    (len : ∀ n vs H Q E, sp n vs H Q E → vs.length = ps.length)
    (hbody : ∀ (A : Around) (outer : List Env) (s : Shared) (H : Hp) (vs : List V) (Q : VK) (E : XK), Room k (A.deeper (envOfC qual scope s.heap.objs.size f cdv)) → sp s.heap.objs.size vs H Q E →
      ∃ t, PSs (cxOf CX P w K mg base N qual scope f cdv A outer s H E) body t ∧ t { nx := fun _ H' => Q .non H', rt := Q } (start N vs) H) :
    FnAt P w K mg base CX (k + 1) f (PySem.W.fnOf name qual params body scope dV kV doc pm an cdv ct) ps sp := by
  refine ⟨len, fun A outer s H args us vs Q E hr e0 hb r hsp => ?_⟩
  have hl := len _ _ _ _ _ hsp
  have KX : K.In s.heap := e0.mod.kin.keeps fun b o e => (e0.bs b o e).1
  have lim : s.heap.NoLimit := e0.mod.nolimit.keeps fun b o e => (e0.bs b o e).1
  have hkind : ∀ y ∈ ps.zip us, scope.names.lookup y.1 = some .local ∨ (scope.names.lookup y.1 = some .cell ∧ ((cellsFrom (s.heap.objs.size + 1) scope.names []).lookup y.1).isSome = true) := fun ⟨n, v⟩ hy => by
    rcases S.par n (List.of_mem_zip hy).1 with q | q
    · exact .inl q
    · exact .inr ⟨q, PySem.W.cellsFrom_some _ _ _ (.inl q)⟩
  refine codeAny_call_function hr.depth (KX _ _ lk) rfl S.co S.gen rfl (PySem.W.codeRec_of KX hcd) (hb _ _ _ _ ?_)
  refine wpAny_newFunctionEnv_cells S.kind hkind fun env he s1 x => ?_
  subst he
  refine ⟨lim.keeps x.toInCall.keep, codeAny_func ?_⟩
  obtain ⟨t, ht, hq⟩ := hbody A outer s H vs Q E (hr.deeper _) hsp
  have I : Inv (cxOf CX P w K mg base N qual scope f cdv A outer s H E) [] (start N vs) H s1 := inv_start S hr.hd e0 hl r x
  refine wpAny_mono (ht.run [] s1 (start N vs) H _ I hq) (fun fl s' hs => ?_) fun e s' hs => hs
  have fin : ∀ {σ' : St} {H' : Hp} {v : V} {u : Value}, Inv (cxOf CX P w K mg base N qual scope f cdv A outer s H E) [] σ' H' s' → RelV v u → Q v H' → CE outer P w H s Q u s' :=
    fun {σ' H' v u} J rv q => ⟨v, H', J.os, J.bare, J.base, J.hok, rv, q⟩
  cases fl with
  | ret u =>
    obtain ⟨v, σ', H', J, rv, q⟩ := hs
    exact fin J rv q
  | next =>
    obtain ⟨σ', H', J, q⟩ := hs
    exact fin (v := V.non) (u := Value.none) J rfl q
  | brk =>
    obtain ⟨_, _, _, q⟩ := hs
    exact False.elim q
  | cont =>
    obtain ⟨_, _, _, q⟩ := hs
    exact False.elim q
/-! ### for x in o, o's __iter__ gives iter(o.f), f a dict -/
def spIterD (C : Addr) (fl : Str) (n : Nat) : Sp := fun vs H Q _ => ∃ (a dx : Addr) (fs : List (Str × V)) (d : Addr) (o : Obj) (kvs : List (Key × V)), vs = [.ref a] ∧ H a = some (.ins C dx fs) ∧ fs.lookup fl = some (.ref d) ∧ H d = some (.frz o (.dK kvs)) ∧
  ∀ it, H it = none → n ≤ it → Q (.ref it) (upd H it (KitO d it o))
def iOwnD (C : Addr) (fl : Str) (te : TE) : TI := fun σ H R => te σ H fun x H1 => ∃ (a dx : Addr) (fs : List (Str × V)) (d : Addr) (o : Obj) (kvs : List (Key × V)), x = .ref a ∧ H1 a = some (.ins C dx fs) ∧ fs.lookup fl = some (.ref d) ∧ H1 d = some (.frz o (.dK kvs)) ∧ R (Itk d o kvs) H1
section
variable {X : Cx} {CX : CXT} {k : Nat} {C f : Addr} {fd : FuncData} {fl : Str} {tg e : Expr} {te : TE}
/-- o.__iter__() -/
theorem iter_own {A : Around} {pins : List (Addr × Obj)} {σ : St} {H : Hp} {s : Shared} {a dx d : Addr} {fs : List (Str × V)} {o : Obj} {kvs : List (Key × V)} {Q : Value → Shared → Prop} (hA : A.frames = X.A.frames) (hrA : Room k A) (F : FnAt X.prog X.w X.K X.mg X.base CX0 k f fd ["self"] (spIterD C fl)) (hm : Meth X.K C "__iter__" f) (hb : Binds X.K fd ["self"] [])
    (I : Inv X pins σ H s) (ha : H a = some (.ins C dx fs)) (hf : fs.lookup fl = some (.ref d)) (hd : H d = some (.frz o (.dK kvs)))
    (q : ∀ it s', s.heap.objs.size ≤ it → Inv X pins σ (upd H it (KitO d it o)) s' → H it = none → Q (.ref it) s') : wpAny (model X.prog X.w) A (pyIter (.ref a)) Q X.xe s := by
  obtain ⟨mA, J, _⟩ := ins_get I.hok ha
  obtain ⟨od, J, _⟩ := J.look
  obtain ⟨m, hF⟩ := I.fr
  refine PySem.W.owit_iter hF I.ok.mod.kin J hm.at_ hm.fn ?_
  have e0 : Env0 X.prog X.w X.K X.mg X.base A X.stack s H := by
    have e := I.env0
    exact ⟨by rw [hA]; exact e.frames, e.mod, e.bs, e.bsz, e.funs, e.frf, e.hok, e.bare⟩
  refine wpAny_call (codeAny_mono (F.run A X.stack s H ⟨[.ref a], []⟩ [.ref a] [.ref a] (fun v H' => ∃ it, v = .ref it ∧ s.heap.objs.size ≤ it ∧ H it = none ∧ H' = upd H it (KitO d it o)) E0 hrA e0 (by
    have := hb s [.ref a] I.kIn rfl
    simpa using this) (.cons rfl .nil) ⟨a, dx, fs, d, o, kvs, rfl, ha, hf, hd, fun it n1 n2 => ⟨it, rfl, n2, n1, rfl⟩⟩) fun r s' hq => ?_)
  cases r with
  | error e => exact False.elim hq
  | ok fl =>
    cases fl with
    | next => exact False.elim hq
    | brk => exact False.elim hq
    | cont => exact False.elim hq
    | ret u =>
      obtain ⟨v, H', I', rv, it, ev, hn, hi, eH⟩ := I.after hq
      subst ev
      cases rv
      subst eH
      have hk : ∃ es ep, o.data = .dict es ep ∧ s'.heap.get? it = some (kitObj d es.size ep) := (I'.hok it _ upd_same).1
      obtain ⟨es, ep, _, hg⟩ := hk
      have hT : s'.TypeIs (.ref it) "dict_keyiterator" := ⟨_, hg, rfl⟩
      show wpAny _ _ (specialOf (.ref it) "__next__") _ _ _
      refine wpAny_specialOf hT PySem.F.slot_dict_keyiterator_next.lookup ?_
      exact q it s' hn I' hi
theorem pi_ownD (he : PE X e te) (F : FnAt X.prog X.w X.K X.mg X.base CX0 k f fd ["self"] (spIterD C fl)) (hm : Meth X.K C "__iter__" f) (hb : Binds X.K fd ["self"] []) (hr : Room k X.A) : PI X tg e (iOwnD C fl te) := by
  refine ⟨fun pins s σ H R I h => ?_⟩
  refine thn (he.run pins s σ H _ I h) fun u s1 ⟨x, H1, I1, rx, a, dx, fs, d, o, kvs, ex, ha, hf, hd, q⟩ => ?_
  subst ex
  cases rx
  refine iter_own rfl hr F hm hb I1 ha hf hd fun it s2 hn I2 hi => ?_
  obtain ⟨hs, hgd, hx, es, ep, vs, hdt, hsz, kv, hmm⟩ := I1.frzK hd
  have hk : ∃ es ep, o.data = .dict es ep ∧ s2.heap.get? it = some (kitObj d es.size ep) := (I2.hok it _ upd_same).1
  obtain ⟨es2, ep2, hdt2, hg⟩ := hk
  obtain ⟨rfl, rfl⟩ := dict_ep hdt hdt2
  have I3 : Inv X pins σ H1 s2 := by
    have := ItX.inv_drop I2 (a := it) upd_same
    rw [ItX.dropH_upd hi] at this
    exact this
  have st : s2.heap.IsKeyIter it d 0 kvs.length ep2 := ⟨_, hg, rfl, by rw [← hsz]; rfl⟩
  refine ⟨it, [it], _, _, H1, rfl, I3, turn_keys it hdt, st, fun b hb => ?_, q⟩
  have e : b = it := by simpa using hb
  rw [e]
  have := ItX.inv_fp I2 (a := it) upd_same (Nat.le_trans I1.sz hn)
  rw [ItX.dropH_upd hi] at this
  exact this
end
end L2

set_option Elab.async false
set_option linter.all false
set_option maxRecDepth 100000
set_option maxHeartbeats 4000000
namespace W8
open PySem PySem.Spec PyProof.Rows L2 L2E
/-- an error of the class at C with one field may be raised -/
def ErrF (E : XK) (C : Addr) (f : Str) (v : V) (H : Hp) : Prop := ∀ d H', Same H H' → H d = none → H' d = some (.xd [(f, v)]) → E (.ref C) (some d) H'
theorem ErrF.go {E : XK} {C : Addr} {f : Str} {v : V} {H H1 : Hp} {d : Addr} (h : ErrF E C f v H) (s : Same H H1) (n : H1 d = none) : E (.ref C) (some d) (upd H1 d (.xd [(f, v)])) :=
  h d _ (s.trans (same_new n _)) (s.free n) upd_same
theorem ErrF.mono {E : XK} {C : Addr} {f : Str} {v : V} {H H1 : Hp} (h : ErrF E C f v H) (s : Same H H1) : ErrF E C f v H1 := fun d H' s' n e => h d H' (s.trans s') (s.free n) e
/-- a def that may raise, by its name -/
structure CalX (P : Program) (w : World) (K : PySem.W.Frag) (mg : Str → Option Value) (base : Heap) (x : Str) (k : Nat) (ps : List Str) (sp : Sp) : Prop where
  ex : ∃ (f : Addr) (fd : FuncData), FnOk P w K mg base (L2N.CX P w) k f fd ps sp ∧ mg x = some (.ref f) ∧ PySem.W.keepIn K (.ref f) = true ∧ Binds K fd ps []
structure MCalX (P : Program) (w : World) (K : PySem.W.Frag) (mg : Str → Option Value) (base : Heap) (C : Addr) (m : Str) (k : Nat) (ps : List Str) (sp : Sp) : Prop where
  ex : ∃ (f : Addr) (fd : FuncData), FnOk P w K mg base (L2N.CX P w) k f fd ps sp ∧ Meth K C m f ∧ Binds K fd ps []
structure MCal (P : Program) (w : World) (K : PySem.W.Frag) (mg : Str → Option Value) (base : Heap) (C : Addr) (m : Str) (k : Nat) (ps : List Str) (sp : Sp) : Prop where
  ex : ∃ (f : Addr) (fd : FuncData), FnOk P w K mg base CX0 k f fd ps sp ∧ Meth K C m f ∧ Binds K fd ps []
section
variable {X : Cx} {x : Str} {k j : Nat} {ps : List Str} {sp : Sp} {p pos : Pos} {e : Expr} {es : List Expr} {t : TA} {E : XK}
theorem pcallX (C : CalX X.prog X.w X.K X.mg X.base x k ps sp) (hr : Room j X.A) (hx : Passes (L2N.CX X.prog X.w) X E) (ha : PA X (e :: es) t) (hk : k ≤ j := by decide) (hg : Gl X x := by rfl) (hdb : (x == ("__debug__" : Str)) = false := by decide)
    (he : starEach (e :: es) X.env = (false, eval e X.env) :: starEach es X.env := by rfl) (hpl : (backTo pos (starEach es X.env)).any (·.1) = false := by rfl) : PE X (.Call (.Name x p) (e :: es) [] pos) (tCall sp [] E t) := by
  obtain ⟨f, fd, G, hm, kp, b⟩ := C.ex
  exact pe_call G (hr.mono hk) hg hm kp b .nil hx ha hdb he hpl
/-- nothing is let out where nothing may be -/
abbrev EN : XK := fun _ _ _ => False
theorem passN {P : Program} {w : World} {X : Cx} : Passes (L2N.CX P w) X EN := by
  rintro pins σ H s e s' I ⟨a, B, H', cls, d, ea, fl, hok, ub, na, os, ag, he⟩
  exact False.elim he
theorem pcallN (C : CalX X.prog X.w X.K X.mg X.base x k ps sp) (hr : Room j X.A) (ha : PA X (e :: es) t) (hk : k ≤ j := by decide) (hg : Gl X x := by rfl) (hdb : (x == ("__debug__" : Str)) = false := by decide)
    (he : starEach (e :: es) X.env = (false, eval e X.env) :: starEach es X.env := by rfl) (hpl : (backTo pos (starEach es X.env)).any (·.1) = false := by rfl) : PE X (.Call (.Name x p) (e :: es) [] pos) (tCall sp [] EN t) := pcallX C hr passN ha hk hg hdb he hpl
end
section
variable {P : Program} {w : World} {K : PySem.W.Frag} {mg : Str → Option Value} {base : Heap}
theorem okN {x qual : Str} {st : Stmt} {f : Addr} {fd : FuncData} {N ps : List Str} {k : Nat} {sp : Sp} (F : Fun K x qual st f fd) (S : FnScope N ps (defScope st)) (len : ∀ vs H Q E, sp vs H Q E → vs.length = ps.length)
    (hbody : ∀ (cdv : Value) (A : Around) (outer : List Env) (s : Shared) (H : Hp) (vs : List V) (Q : VK) (E : XK), Room k (A.deeper (envOfC qual (defScope st) s.heap.objs.size f cdv)) → sp vs H Q E →
      ∃ t, PSs (cxOf (L2N.CX P w) P w K mg base N qual (defScope st) f cdv A outer s H E) (defBody st) t ∧ t { nx := fun _ H' => Q .non H', rt := Q } (start N vs) H) : FnOk P w K mg base (L2N.CX P w) (k + 1) f fd ps sp := by
  obtain ⟨oc, od, kV, doc, pm, an, cdv, ct, osl, rfl, lk, hcd⟩ := F.ex
  exact fn_of lk hcd S len fun A outer s H vs Q E hr hsp => hbody cdv A outer s H vs Q E hr hsp
end
theorem bind_star {name qual x y : Str} {P : Arguments} {a : Arg} {body : List Stmt} {scope : Scope} {kV doc pm : Value} {an : Option Addr} {cdv ct : Value} (h1 : P.posonlyargs = []) (h2 : P.args.map (·.arg) = [x]) (h3 : P.kwonlyargs = []) (h4 : P.vararg = some a) (h5 : P.kwarg = none) (h6 : a.arg = y) (u : Value) (rest : List Value) :
    bindArgs (PySem.W.fnOf name qual P body scope .none kV doc pm an cdv ct) ⟨[u] ++ rest, []⟩ = (newTuple rest >>= fun t => pure ([x].zip [u] ++ [(y, t)])) := by
  unfold bindArgs
  simp [PySem.W.fnOf, h1, h2, h3, h4, h5, h6, seqItems?]
  rfl
theorem paired_snoc {α β : Type} {F : α → β → Prop} : ∀ {xs : List α} {ys : List β} {x : α} {y : β}, Paired F xs ys → F x y → Paired F (xs ++ [x]) (ys ++ [y])
  | [], [], _, _, .nil, h => .cons h .nil
  | _ :: _, _ :: _, _, _, .cons a b, h => .cons a (paired_snoc b h)
theorem decT {p : Prop} [Decidable p] (h : ¬ (!decide p) = true) : p := by
  cases hh : decide p with
  | true => exact of_decide_eq_true hh
  | false => rw [hh] at h; exact absurd rfl h
theorem decF {p : Prop} [Decidable p] (h : (!decide p) = true) : ¬ p := fun hp => by
  rw [decide_eq_true hp] at h
  cases h
/-! ### o.m(e, ..), m a def with a star -/
section
variable {X : Cx} {CX : CXT} {k : Nat} {C f : Addr} {m : Str} {sp : Sp} {E : XK} {o e : Expr} {es : List Expr} {ta : TE} {t : TA} {pos apos : Pos}
def tMethR (C : Addr) (m : Str) (sp : Sp) (E : XK) (ta : TE) (t : TA) : TE := fun σ H Q => ta σ H fun x H1 => ∃ a dx fs, x = .ref a ∧ H1 a = some (.ins C dx fs) ∧ fs.lookup m = none ∧ t σ H1 fun vs H2 => sp (x :: vs) H2 Q E
theorem pe_methR {pl : Sem Bool} (he : PE X o ta) (c : Cls X.K C) (hm : Meth X.K C m f) (F : FnR X.prog X.w X.K X.mg X.base CX k f sp) (hr : Room k X.A) (hx : Passes CX X E) (ha : PA X (e :: es) t)
    (hst : starEach (e :: es) X.env = (false, eval e X.env) :: starEach es X.env := by rfl) (hpl : (backTo pos (starEach es X.env)).any (·.1) = false := by rfl)
    (ht : eval (.Call (.Attribute o m apos) (e :: es) [] pos) X.env = (do
      let ov ← eval o X.env
      standAt apos.atName
      let (f, first) ← holding [ov] (getMethod ov m pl)
      callWith pos f first (backTo pos (starEach (e :: es) X.env)) (backToKw pos (keywordEach [] X.env))) := by rfl) :
    PE X (.Call (.Attribute o m apos) (e :: es) [] pos) (tMethR C m sp E ta t) := by
  refine ⟨fun pins s σ H Q I h => ?_⟩
  refine PySem.W.methodCall_KW (pl := pl) (thn (he.run pins s σ H _ I h) fun u s1 ⟨x, H1, I1, rx, a, dx, fs, ex, ea, l, q⟩ => ?_) ht
  subst ex
  obtain rfl : u = Value.ref a := rx
  refine getmeth_ok I1 ea c hm l ?_
  refine PySem.W.callWith_K (first := [.ref a]) (h₀ := X.base) I.ok.mod.kin hm.kp (thn (ha.run pos pins s1 σ H1 _ I1 q) fun us s2 ⟨vs, H2, I2, r, q2⟩ => ⟨I2.kIn, ?_⟩) hst hpl
  exact wpAny_call (run_fnR (us := .ref a :: us) (vs := .ref a :: vs) F hr hx I2 (.cons rfl r) q2)
end
end W8

set_option Elab.async false
set_option linter.all false
/-! reading a pattern's text, in plain Lean -/
namespace W8
open PySem L2
abbrev Row := List V
structure RS where
  rows : List Row
  ops : List Nat
  wait : List Nat
  ready : Bool
namespace RS
def nV (n : Nat) : V := .int (n : Int)
def put (s : RS) (r : Row) : RS := ⟨s.rows ++ [r], s.ops ++ [s.rows.length], s.wait, s.ready⟩
def popO (s : RS) : RS := ⟨s.rows, s.ops.dropLast, s.wait, s.ready⟩
def popW (s : RS) : RS := ⟨s.rows, s.ops, s.wait.dropLast, s.ready⟩
def addR (s : RS) (r : Row) : RS := ⟨s.rows ++ [r], s.ops, s.wait, s.ready⟩
def addW (s : RS) (c : Nat) : RS := ⟨s.rows, s.ops, s.wait ++ [c], s.ready⟩
def setB (s : RS) (b : Bool) : RS := ⟨s.rows, s.ops, s.wait, b⟩
def combine (s : RS) : Option RS :=
  match s.wait.getLast?, s.ops.getLast? with
  | some c, some l =>
    if c = 126 then some (put s.popW.popO [.str "not", nV l])
    else match s.ops.dropLast.getLast? with
      | some f =>
        if c = 43 then some (put s.popW.popO.popO [.str "then", nV f, nV l])
        else if c = 124 then some (put s.popW.popO.popO [.str "or", nV f, nV l])
        else some (put (((s.popW.popO.popO.addR [.str "not", nV f]).addR [.str "not", nV l]).addR [.str "or", nV s.rows.length, nV (s.rows.length + 1)]) [.str "not", nV (s.rows.length + 2)])
      | none => none
  | _, _ => none
def bind (c : Nat) : Option Nat := if c = 40 then some 0 else if c = 124 then some 1 else if c = 38 then some 2 else if c = 43 then some 3 else if c = 126 then some 4 else none
def down (b : Nat) : Nat → RS → Option RS
  | 0, _ => none
  | n + 1, s => match s.wait.getLast? with
    | none => some s
    | some c => match bind c with
      | none => none
      | some k => if b ≤ k then (match combine s with | none => none | some t => down b n t) else some s
def waitS (s : RS) (c : Nat) : Option RS :=
  match bind c with
  | none => none
  | some b => match down b (s.wait.length + 1) s with
    | none => none
    | some t => some ((t.addW c).setB false)
def addL (s : RS) : List Nat → RS
  | [] => s
  | l :: ls => addL (s.addR [.str "letter", .str (S [l])]) ls
def begin2 (al : List Nat) (s : RS) (c : Nat) : RS :=
  if c = 40 ∨ c = 126 then s.addW c
  else setB (if c = 46 then put (s.addL al) (.str "or" :: (List.range al.length).map fun i => nV (s.rows.length + i))
    else if c = 48 then s.put [.str "or"] else if c = 49 then s.put [.str "empty"] else s.put [.str "letter", .str (S [c])]) true
def begin1 (al : List Nat) (s : RS) (c : Nat) : Option RS :=
  if s.ready = true then (match waitS s 43 with | none => none | some t => some (begin2 al t c)) else some (begin2 al s c)
def close (s : RS) : Option (Option RS) :=
  match down 1 (s.wait.length + 1) s with
  | none => none
  | some t => if t.wait = [] then some none else some (some t.popW)
def take (al : List Nat) (s : RS) (c : Nat) : Option (Option RS) :=
  if c ∈ al ∨ c ∈ [46, 48, 49, 40, 126] then (begin1 al s c).map some
  else if c ∉ [42, 124, 38, 41] ∨ s.ready = false then some none
  else if c = 42 then (match s.ops.getLast? with | none => none | some l => some (some (s.popO.put [.str "again", nV l])))
  else if c = 41 then close s
  else (waitS s c).map some
def init : RS := ⟨[], [], [], false⟩
def readL (al : List Nat) : List Nat → Nat → RS → Option (Nat ⊕ RS)
  | [], _, s => some (.inr s)
  | c :: cs, i, s => match take al s c with
    | none => none
    | some none => some (.inl i)
    | some (some t) => readL al cs (i + 1) t
end RS
inductive RR where
  | rows (rs : List Row)
  | text (i : Nat)
  | long
def readP (al text : List Nat) : Option RR :=
  if 200 < text.length then some .long
  else match RS.readL al text 0 RS.init with
    | none => none
    | some (.inl i) => some (.text i)
    | some (.inr s) => if s.ready = false then some (.text text.length) else match RS.down 1 (s.wait.length + 1) s with
      | none => none
      | some t => if t.wait = [] then some (.rows t.rows) else some (.text text.length)
/-! ### how large it grows -/
namespace RS
structure Ok (s : RS) (B : Nat) : Prop where
  o : s.ops.length ≤ s.rows.length
  b : s.rows.length + 4 * s.wait.length ≤ B
theorem put_ok {s : RS} {B : Nat} {r : Row} (h : Ok s B) : Ok (s.put r) (B + 1) := by
  have := h.o
  have := h.b
  refine ⟨?_, ?_⟩
  · show (s.ops ++ [s.rows.length]).length ≤ (s.rows ++ [r]).length
    rw [List.length_append, List.length_append]
    show _ + 1 ≤ _ + 1
    omega
  · show (s.rows ++ [r]).length + 4 * s.wait.length ≤ B + 1
    rw [List.length_append]
    show _ + 1 + _ ≤ _
    omega
theorem addR_ok {s : RS} {B : Nat} {r : Row} (h : Ok s B) : Ok (s.addR r) (B + 1) := by
  have := h.o
  have := h.b
  refine ⟨?_, ?_⟩
  · show s.ops.length ≤ (s.rows ++ [r]).length
    rw [List.length_append]
    omega
  · show (s.rows ++ [r]).length + 4 * s.wait.length ≤ B + 1
    rw [List.length_append]
    show _ + 1 + _ ≤ _
    omega
theorem popO_ok {s : RS} {B : Nat} (h : Ok s B) : Ok s.popO B := ⟨by show s.ops.dropLast.length ≤ s.rows.length; rw [List.length_dropLast]; have := h.o; omega, h.b⟩
theorem popW_ok {s : RS} {B : Nat} {c : Nat} (h : Ok s B) (hc : s.wait.getLast? = some c) : Ok s.popW (B - 4) ∧ 4 ≤ B := by
  have hb := h.b
  have hl : s.wait.length ≠ 0 := fun z => by
    rw [List.length_eq_zero_iff.mp z] at hc
    cases hc
  refine ⟨⟨h.o, ?_⟩, by omega⟩
  show s.rows.length + 4 * s.wait.dropLast.length ≤ B - 4
  rw [List.length_dropLast]
  omega
theorem Ok.le {s : RS} {A B : Nat} (h : Ok s A) (l : A ≤ B) : Ok s B := ⟨h.o, Nat.le_trans h.b l⟩
theorem combine_ok {s t : RS} {B : Nat} (h : Ok s B) (e : combine s = some t) : Ok t B ∧ t.wait.length < s.wait.length := by
  unfold combine at e
  split at e
  · rename_i c l hc hl
    obtain ⟨hw, h4⟩ := popW_ok h hc
    have hlen : s.popW.wait.length < s.wait.length := by
      have : s.wait.length ≠ 0 := fun z => by rw [List.length_eq_zero_iff.mp z] at hc; cases hc
      show s.wait.dropLast.length < _
      rw [List.length_dropLast]
      omega
    split at e
    · cases e
      exact ⟨(put_ok (popO_ok hw)).le (by omega), hlen⟩
    · split at e
      · split at e
        · cases e
          exact ⟨(put_ok (popO_ok (popO_ok hw))).le (by omega), hlen⟩
        · split at e
          · cases e
            exact ⟨(put_ok (popO_ok (popO_ok hw))).le (by omega), hlen⟩
          · cases e
            exact ⟨(put_ok (addR_ok (addR_ok (addR_ok (popO_ok (popO_ok hw)))))).le (by omega), hlen⟩
      · cases e
  · cases e
theorem down_ok {b B : Nat} : ∀ {n : Nat} {s t : RS}, Ok s B → down b n s = some t → Ok t B
  | 0, _, _, _, e => by cases e
  | n + 1, s, t, h, e => by
    unfold down at e
    split at e
    · cases e; exact h
    · split at e
      · cases e
      · split at e
        · split at e
          · cases e
          · rename_i u hu
            exact down_ok (combine_ok h hu).1 e
        · cases e; exact h
theorem addW_ok {s : RS} {B c : Nat} (h : Ok s B) : Ok (s.addW c) (B + 4) := ⟨h.o, by
  show s.rows.length + 4 * (s.wait ++ [c]).length ≤ B + 4
  rw [List.length_append]
  have := h.b
  show _ + 4 * (_ + 1) ≤ _
  omega⟩
theorem setB_ok {s : RS} {B : Nat} {b : Bool} (h : Ok s B) : Ok (s.setB b) B := ⟨h.o, h.b⟩
theorem waitS_ok {s t : RS} {B c : Nat} (h : Ok s B) (e : waitS s c = some t) : Ok t (B + 4) := by
  unfold waitS at e
  split at e
  · cases e
  · split at e
    · cases e
    · rename_i u hu
      cases e
      exact setB_ok (addW_ok (down_ok h hu))
theorem addL_ok : ∀ {al : List Nat} {s : RS} {B : Nat}, Ok s B → Ok (s.addL al) (B + al.length)
  | [], _, _, h => h
  | l :: ls, s, B, h => (addL_ok (addR_ok h)).le (by show B + 1 + ls.length ≤ B + (ls.length + 1); omega)
theorem begin2_ok {al : List Nat} {s : RS} {B c : Nat} (h : Ok s B) : Ok (begin2 al s c) (B + al.length + 4) := by
  unfold begin2
  split
  · exact (addW_ok h).le (by omega)
  · refine setB_ok ?_
    split
    · exact (put_ok (addL_ok h)).le (by omega)
    · split
      · exact (put_ok h).le (by omega)
      · split
        · exact (put_ok h).le (by omega)
        · exact (put_ok h).le (by omega)
theorem begin1_ok {al : List Nat} {s t : RS} {B c : Nat} (h : Ok s B) (e : begin1 al s c = some t) : Ok t (B + al.length + 8) := by
  unfold begin1 at e
  split at e
  · split at e
    · cases e
    · rename_i u hu
      cases e
      exact (begin2_ok (waitS_ok h hu)).le (by omega)
  · cases e
    exact (begin2_ok h).le (by omega)
theorem take_ok {al : List Nat} {s t : RS} {B c : Nat} (h : Ok s B) (e : take al s c = some (some t)) : Ok t (B + al.length + 8) := by
  unfold take at e
  split at e
  · cases hb : begin1 al s c with
    | none => rw [hb] at e; cases e
    | some u => rw [hb] at e; cases e; exact begin1_ok h hb
  · split at e
    · cases e
    · split at e
      · split at e
        · cases e
        · cases e
          exact (put_ok (popO_ok h)).le (by omega)
      · split at e
        · unfold close at e
          split at e
          · cases e
          · rename_i u hu
            split at e
            · cases e
            · rename_i hw
              cases e
              have hk := down_ok h hu
              obtain ⟨c', hc'⟩ : ∃ c', u.wait.getLast? = some c' := by
                cases z : u.wait.getLast? with
                | none => exact absurd (List.getLast?_eq_none_iff.mp z) hw
                | some c' => exact ⟨c', rfl⟩
              exact (popW_ok hk hc').1.le (by omega)
        · cases hw : waitS s c with
          | none => rw [hw] at e; cases e
          | some u => rw [hw] at e; cases e; exact (waitS_ok h hw).le (by omega)
/-- more turns do not matter -/
theorem down_more {b : Nat} : ∀ {n m : Nat} {s t : RS}, down b n s = some t → n ≤ m → down b m s = some t
  | 0, _, _, _, e, _ => by cases e
  | n + 1, 0, _, _, _, h => by omega
  | n + 1, m + 1, s, t, e, h => by
    unfold down at e ⊢
    split at e
    · exact e
    · split at e
      · cases e
      · rename_i c hc k hk
        split at e
        · rename_i hb
          rw [if_pos hb]
          split at e
          · cases e
          · exact down_more e (Nat.le_of_succ_le_succ h)
        · rename_i hb
          rw [if_neg hb]
          exact e
end RS
end W8

set_option Elab.async false
set_option linter.all false
set_option maxRecDepth 100000
set_option maxHeartbeats 4000000
namespace W8
open PySem L2
/-! ### a reader as an object -/
def rf (l r o w b : V) : List (Str × V) := [("letters", l), ("rows", r), ("operands", o), ("waiting", w), ("ready", b)]
theorem rf_letters (l r o w b : V) : (rf l r o w b).lookup ("letters" : Str) = some l := by rfl
theorem rf_rows (l r o w b : V) : (rf l r o w b).lookup ("rows" : Str) = some r := by rfl
theorem rf_operands (l r o w b : V) : (rf l r o w b).lookup ("operands" : Str) = some o := by rfl
theorem rf_waiting (l r o w b : V) : (rf l r o w b).lookup ("waiting" : Str) = some w := by rfl
theorem rf_ready (l r o w b : V) : (rf l r o w b).lookup ("ready" : Str) = some b := by rfl
theorem rf_no (l r o w b : V) {m : Str} (h : ((((m == ("letters" : Str)) = false ∧ (m == ("rows" : Str)) = false) ∧ (m == ("operands" : Str)) = false) ∧ (m == ("waiting" : Str)) = false) ∧ (m == ("ready" : Str)) = false) : (rf l r o w b).lookup m = none := by
  unfold rf
  rw [List.lookup_cons, h.1.1.1.1, List.lookup_cons, h.1.1.1.2, List.lookup_cons, h.1.1.2, List.lookup_cons, h.1.2, List.lookup_cons, h.2]
  rfl
theorem putF_ready (l r o w b c : V) : putF "ready" c (rf l r o w b) = rf l r o w c := by
  show (if ("letters" : Str) = "ready" then _ else _ :: (if ("rows" : Str) = "ready" then _ else _ :: (if ("operands" : Str) = "ready" then _ else _ :: (if ("waiting" : Str) = "ready" then _ else _ :: (if ("ready" : Str) = "ready" then _ else _))))) = _
  rw [if_neg (by decide +kernel), if_neg (by decide +kernel), if_neg (by decide +kernel), if_neg (by decide +kernel), if_pos rfl]
  rfl
structure RdT (K : PySem.W.Frag) (w : World) (mg : Str → Option Value) (C D : Addr) : Prop where
  cl : Cls K C
  nL : NoAttr K C "letters"
  nR : NoAttr K C "rows"
  nO : NoAttr K C "operands"
  nW : NoAttr K C "waiting"
  nB : NoAttr K C "ready"
  mgC : mg "Reader" = some (.ref C)
  mgB : mg "BINDING" = some (.ref D)
  bd : ∀ c b, RS.bind c = some b → KDct K w D (S [c]) (.int (b : Int))
  len : mg "len" = none
  lst : mg "list" = none
  rng : mg "range" = none
abbrev Rows (H : Hp) (rl : Addr) (rows : List Row) : Prop := ∃ ts : List Addr, H rl = some (.lst (ts.map V.ref)) ∧ Paired (fun (t : Addr) (row : Row) => H t = some (.tup row)) ts rows
def sgV (c : Nat) : V := .str (S [c])
structure RdAt (H : Hp) (p dx rl ol wl C : Addr) (al : List Nat) (s : RS) : Prop where
  o : H p = some (.ins C dx (rf (.str (S al)) (.ref rl) (.ref ol) (.ref wl) (.bl s.ready)))
  r : Rows H rl s.rows
  p : H ol = some (.lst (s.ops.map RS.nV))
  w : H wl = some (.lst (s.wait.map sgV))
  n1 : rl ≠ ol
  n2 : rl ≠ wl
  n3 : ol ≠ wl
/-- all but the reader's own objects are kept -/
def K4 (p rl ol wl : Addr) (H H' : Hp) : Prop := ∀ b o, b ≠ p → b ≠ rl → b ≠ ol → b ≠ wl → H b = some o → H' b = some o
theorem K4.of {p rl ol wl : Addr} {H H' : Hp} (s : Same H H') : K4 p rl ol wl H H' := fun b o _ _ _ _ e => s b o e
theorem K4.trans {p rl ol wl : Addr} {H H1 H2 : Hp} (x : K4 p rl ol wl H H1) (y : K4 p rl ol wl H1 H2) : K4 p rl ol wl H H2 := fun b o h1 h2 h3 h4 e => y b o h1 h2 h3 h4 (x b o h1 h2 h3 h4 e)
theorem Rows.same {H H' : Hp} {rl : Addr} {rows : List Row} (s : Same H H') (h : Rows H rl rows) : Rows H' rl rows := let ⟨ts, h1, h2⟩ := h; ⟨ts, s _ _ h1, Paired.mapP h2 fun _ _ z => s _ _ z⟩
section
variable {H H' : Hp} {p dx rl ol wl C : Addr} {al : List Nat} {s : RS}
theorem RdAt.same (h : RdAt H p dx rl ol wl C al s) (t : Same H H') : RdAt H' p dx rl ol wl C al s := ⟨t _ _ h.o, h.r.same t, t _ _ h.p, t _ _ h.w, h.n1, h.n2, h.n3⟩
theorem Rows.upd {rl a : Addr} {rows : List Row} {o : HO} {u : HO} (h : Rows H rl rows) (n : a ≠ rl) (ha : H a = some u) (hu : ∀ xs, u ≠ .tup xs) : Rows (upd H a o) rl rows := by
  obtain ⟨ts, h1, h2⟩ := h
  exact ⟨ts, by rw [upd_ne (Ne.symm n)]; exact h1, Paired.mapP h2 fun _ _ z => by rw [upd_ne (fun e => by rw [e, ha] at z; exact hu _ (Option.some.inj z))]; exact z⟩
/-- a row is added -/
theorem RdAt.addR {ts : List Addr} {t : Addr} {row : Row} (h : RdAt H p dx rl ol wl C al s) (h1 : H rl = some (.lst (ts.map V.ref))) (h2 : Paired (fun (t : Addr) (row : Row) => H t = some (.tup row)) ts s.rows) (ht : H t = some (.tup row)) :
    RdAt (upd H rl (.lst (ts.map V.ref ++ [.ref t]))) p dx rl ol wl C al (s.addR row) ∧ K4 p rl ol wl H (upd H rl (.lst (ts.map V.ref ++ [.ref t]))) := by
  have np : p ≠ rl := ne_of h.o h1 (by intro z; cases z)
  refine ⟨⟨by rw [upd_ne np]; exact h.o, ⟨ts ++ [t], by rw [upd_same, List.map_append]; rfl, ?_⟩, by rw [upd_ne (Ne.symm h.n1)]; exact h.p, by rw [upd_ne (Ne.symm h.n2)]; exact h.w, h.n1, h.n2, h.n3⟩, fun b o _ nb _ _ e => by rw [upd_ne nb]; exact e⟩
  have q : ∀ {a : Addr} {r : Row}, H a = some (.tup r) → upd H rl (.lst (ts.map V.ref ++ [.ref t])) a = some (.tup r) := fun z => by rw [upd_ne (ne_of z h1 (by intro z; cases z))]; exact z
  exact paired_snoc (Paired.mapP h2 fun _ _ z => q z) (q ht)
/-- the operands are others -/
theorem RdAt.setO {xs : List Nat} {vs : List V} (e : vs = xs.map RS.nV) (h : RdAt H p dx rl ol wl C al s) : RdAt (upd H ol (.lst vs)) p dx rl ol wl C al ⟨s.rows, xs, s.wait, s.ready⟩ ∧ K4 p rl ol wl H (upd H ol (.lst vs)) :=
  ⟨⟨by rw [upd_ne (ne_of h.o h.p (by intro z; cases z))]; exact h.o, Rows.upd h.r (Ne.symm h.n1) h.p (fun _ z => nomatch z), by rw [upd_same, e], by rw [upd_ne (Ne.symm h.n3)]; exact h.w, h.n1, h.n2, h.n3⟩, fun b o _ _ nb _ e => by rw [upd_ne nb]; exact e⟩
theorem RdAt.setW {xs : List Nat} {vs : List V} (e : vs = xs.map sgV) (h : RdAt H p dx rl ol wl C al s) : RdAt (upd H wl (.lst vs)) p dx rl ol wl C al ⟨s.rows, s.ops, xs, s.ready⟩ ∧ K4 p rl ol wl H (upd H wl (.lst vs)) :=
  ⟨⟨by rw [upd_ne (ne_of h.o h.w (by intro z; cases z))]; exact h.o, Rows.upd h.r (Ne.symm h.n2) h.w (fun _ z => nomatch z), by rw [upd_ne h.n3]; exact h.p, by rw [upd_same, e], h.n1, h.n2, h.n3⟩, fun b o _ _ _ nb e => by rw [upd_ne nb]; exact e⟩
theorem RdAt.setB {b : Bool} {fs : List (Str × V)} (e : fs = rf (.str (S al)) (.ref rl) (.ref ol) (.ref wl) (.bl b)) (h : RdAt H p dx rl ol wl C al s) : RdAt (upd H p (.ins C dx fs)) p dx rl ol wl C al (s.setB b) ∧ K4 p rl ol wl H (upd H p (.ins C dx fs)) := by
  obtain ⟨ts, h1, h2⟩ := h.r
  exact ⟨⟨by rw [upd_same, e]; rfl, Rows.upd h.r (ne_of h.o h1 (by intro z; cases z)) h.o (fun _ z => nomatch z), by rw [upd_ne (ne_of h.p h.o (by intro z; cases z))]; exact h.p, by rw [upd_ne (ne_of h.w h.o (by intro z; cases z))]; exact h.w, h.n1, h.n2, h.n3⟩, fun b o nb _ _ _ e => by rw [upd_ne nb]; exact e⟩
end
theorem last_map {α : Type} (f : α → V) {xs : List α} {x : α} (h : xs.getLast? = some x) : (xs.map f)[(xs.map f).length - 1]? = some (f x) := by
  rw [List.length_map, List.getElem?_map, ← List.getLast?_eq_getElem?, h]
  rfl
theorem get_last {α : Type} (f : α → V) {xs : List α} {x : α} (h : xs.getLast? = some x) : atI (xs.map f) (-1) = some (f x) := by
  obtain ⟨ys, rfl⟩ := List.getLast?_eq_some_iff.mp h
  rw [List.map_append]
  exact atI_last _ _
/-! ### the defs -/
abbrev sRInit : Stmt := inClass (top 44) 0
theorem scRInit : FnScope ["self", "letters"] ["self", "letters"] (defScope sRInit) := ⟨rfl, rfl, rfl, by decide +kernel, rfl, by decide +kernel, by decide +kernel⟩
def spRInit (C : Addr) : Sp := fun vs H Q _ => ∃ (p dx : Addr) (al : List Nat), vs = [.ref p, .str (S al)] ∧ H p = some (.ins C dx []) ∧ ∀ H' rl ol wl, But p H H' → RdAt H' p dx rl ol wl C al RS.init → H rl = none → H ol = none → H wl = none → Q .non H'
abbrev sPut : Stmt := inClass (top 44) 1
theorem scPut : FnScope ["self", "parts"] ["self", "parts"] (defScope sPut) := ⟨rfl, rfl, rfl, by decide +kernel, rfl, by decide +kernel, by decide +kernel⟩
def spPut0 (C : Addr) : Sp := fun vs H Q _ => ∃ (p dx rl ol wl : Addr) (al : List Nat) (s : RS) (B : Nat) (t : Addr) (row : Row), vs = [.ref p, .ref t] ∧ RdAt H p dx rl ol wl C al s ∧ RS.Ok s B ∧ B ≤ 90000 ∧ H t = some (.tup row) ∧ ∀ H', K4 p rl ol wl H H' → RdAt H' p dx rl ol wl C al (s.put row) → Q .non H'
/-- self.put(..) -/
def spPut (C : Addr) : Sp := fun vs H Q _ => ∃ (p dx rl ol wl : Addr) (al : List Nat) (s : RS) (B : Nat) (row : Row), vs = .ref p :: row ∧ RdAt H p dx rl ol wl C al s ∧ RS.Ok s B ∧ B ≤ 90000 ∧ row.length ≤ 1000 ∧ ∀ H', K4 p rl ol wl H H' → RdAt H' p dx rl ol wl C al (s.put row) → Q .non H'
structure MCalR (P : Program) (w : World) (K : PySem.W.Frag) (mg : Str → Option Value) (base : Heap) (C : Addr) (m : Str) (k : Nat) (sp : Sp) : Prop where
  ex : ∃ (f : Addr), FnR P w K mg base CX0 k f sp ∧ Meth K C m f ∧ BMeth K C m f
abbrev sCombine : Stmt := inClass (top 44) 2
theorem scCombine : FnScope ["self", "sign", "last", "first", "count"] ["self"] (defScope sCombine) := ⟨rfl, rfl, rfl, by decide +kernel, rfl, by decide +kernel, by decide +kernel⟩
def spCombine (C : Addr) : Sp := fun vs H Q _ => ∃ (p dx rl ol wl : Addr) (al : List Nat) (s t : RS) (B : Nat), vs = [.ref p] ∧ RdAt H p dx rl ol wl C al s ∧ RS.Ok s B ∧ B ≤ 90000 ∧ s.combine = some t ∧ ∀ H', K4 p rl ol wl H H' → RdAt H' p dx rl ol wl C al t → Q .non H'
abbrev sDown : Stmt := inClass (top 44) 3
theorem scDown : FnScope ["self", "binding"] ["self", "binding"] (defScope sDown) := ⟨rfl, rfl, rfl, by decide +kernel, rfl, by decide +kernel, by decide +kernel⟩
def spDown (C : Addr) : Sp := fun vs H Q _ => ∃ (p dx rl ol wl : Addr) (al : List Nat) (s t : RS) (B b : Nat), vs = [.ref p, .int (b : Int)] ∧ RdAt H p dx rl ol wl C al s ∧ RS.Ok s B ∧ B ≤ 90000 ∧ RS.down b (s.wait.length + 1) s = some t ∧ ∀ H', K4 p rl ol wl H H' → RdAt H' p dx rl ol wl C al t → Q .non H'
section
variable {P : Program} {w : World} {K : PySem.W.Frag} {mg : Str → Option Value} {base : Heap}
theorem ok_rinit {f C D : Addr} {fd : FuncData} (F : Fun K "__init__" "Reader.__init__" sRInit f fd) (T : RdT K w mg C D) : FnOk P w K mg base CX0 1 f fd ["self", "letters"] (spRInit C) := by
  refine F.ok scRInit (fun vs H Q E h => ?_) (fun cdv A outer s H vs Q E hr h => ?_)
  · obtain ⟨p, dx, al, rfl, _⟩ := h
    rfl
  obtain ⟨p, dx, al, rfl, hp, q⟩ := h
  refine ⟨_, (pss_cons (ps_fld (pv 0) (pv 1) rfl)
    (pss_cons (ps_fld (pv 0) (pe_lst pa_nil) rfl)
    (pss_cons (ps_fld (pv 0) (pe_lst pa_nil) rfl)
    (pss_cons (ps_fld (pv 0) (pe_lst pa_nil) rfl)
    (pss_one (ps_fld (pv 0) pe_bl rfl)))))), ?_⟩
  refine ⟨_, rfl, _, rfl, p, C, dx, _, rfl, hp, T.cl, T.nL, (by show 0 < 1000; decide), ?_⟩
  have b0 : But p H (upd H p (.ins C dx (putF "letters" (.str (S al)) []))) := But.upd
  have h0 : upd H p (.ins C dx (putF "letters" (.str (S al)) [])) p = some (.ins C dx (putF "letters" (.str (S al)) [])) := upd_same
  generalize upd H p (.ins C dx (putF "letters" (.str (S al)) [])) = H0 at *
  refine ⟨Nat.zero_le _, fun rl hrl => ⟨_, rfl, p, C, dx, _, rfl, by rw [upd_ne (ne_of_none h0 hrl)]; exact h0, T.cl, T.nR, (by show 1 < 1000; decide), ?_⟩⟩
  have b1 : But p H (upd (upd H0 rl (.lst [])) p (.ins C dx (putF "rows" (.ref rl) (putF "letters" (.str (S al)) [])))) := b0.trans ((But.new hrl _).trans But.upd)
  have h1 : (upd (upd H0 rl (.lst [])) p (.ins C dx (putF "rows" (.ref rl) (putF "letters" (.str (S al)) [])))) p = some (.ins C dx (putF "rows" (.ref rl) (putF "letters" (.str (S al)) []))) := upd_same
  have hrl1 : (upd (upd H0 rl (.lst [])) p (.ins C dx (putF "rows" (.ref rl) (putF "letters" (.str (S al)) [])))) rl = some (.lst []) := by rw [upd_ne (Ne.symm (ne_of_none h0 hrl)), upd_same]
  have free : ∀ {H1 : Hp} {b : Addr}, But p H H1 → H1 p ≠ none → H1 b = none → H b = none := fun {H1 b} bt np hb => by
    cases hh : H b with
    | none => rfl
    | some o =>
      have : b ≠ p := fun z => by rw [z] at hb; exact np hb
      rw [bt b o this hh] at hb
      cases hb
  have frl : H rl = none := free b0 (by rw [h0]; intro z; cases z) hrl
  generalize upd (upd H0 rl (.lst [])) p (.ins C dx (putF "rows" (.ref rl) (putF "letters" (.str (S al)) []))) = H1 at *
  clear b0 h0 hrl
  refine ⟨Nat.zero_le _, fun ol hol => ⟨_, rfl, p, C, dx, _, rfl, by rw [upd_ne (ne_of_none h1 hol)]; exact h1, T.cl, T.nO, (by show 2 < 1000; decide), ?_⟩⟩
  have n1 : rl ≠ ol := ne_of_none hrl1 hol
  have nrp : rl ≠ p := ne_of hrl1 h1 (by intro z; cases z)
  have b2 : But p H (upd (upd H1 ol (.lst [])) p (.ins C dx (putF "operands" (.ref ol) (putF "rows" (.ref rl) (putF "letters" (.str (S al)) []))))) := b1.trans ((But.new hol _).trans But.upd)
  have h2 : (upd (upd H1 ol (.lst [])) p (.ins C dx (putF "operands" (.ref ol) (putF "rows" (.ref rl) (putF "letters" (.str (S al)) []))))) p = some (.ins C dx (putF "operands" (.ref ol) (putF "rows" (.ref rl) (putF "letters" (.str (S al)) [])))) := upd_same
  have nop : ol ≠ p := Ne.symm (ne_of_none h1 hol)
  have hol2 : (upd (upd H1 ol (.lst [])) p (.ins C dx (putF "operands" (.ref ol) (putF "rows" (.ref rl) (putF "letters" (.str (S al)) []))))) ol = some (.lst []) := by rw [upd_ne nop, upd_same]
  have hrl2 : (upd (upd H1 ol (.lst [])) p (.ins C dx (putF "operands" (.ref ol) (putF "rows" (.ref rl) (putF "letters" (.str (S al)) []))))) rl = some (.lst []) := by rw [upd_ne nrp, upd_ne n1]; exact hrl1
  have fol : H ol = none := free b1 (by rw [h1]; intro z; cases z) hol
  generalize upd (upd H1 ol (.lst [])) p (.ins C dx (putF "operands" (.ref ol) (putF "rows" (.ref rl) (putF "letters" (.str (S al)) [])))) = H2 at *
  clear b1 h1 hrl1 hol
  refine ⟨Nat.zero_le _, fun wl hwl => ⟨_, rfl, p, C, dx, _, rfl, by rw [upd_ne (ne_of_none h2 hwl)]; exact h2, T.cl, T.nW, (by show 3 < 1000; decide), ?_⟩⟩
  refine ⟨_, rfl, p, C, dx, _, rfl, upd_same, T.cl, T.nB, (by show 4 < 1000; decide), ?_⟩
  have n2 : rl ≠ wl := ne_of_none hrl2 hwl
  have n3 : ol ≠ wl := ne_of_none hol2 hwl
  have nwp : wl ≠ p := Ne.symm (ne_of_none h2 hwl)
  have fwl : H wl = none := free b2 (by rw [h2]; intro z; cases z) hwl
  refine q _ rl ol wl (b2.trans ((But.new hwl _).trans (But.upd.trans But.upd))) ⟨?_, ⟨[], ?_, .nil⟩, ?_, ?_, n1, n2, n3⟩ frl fol fwl
  · rw [upd_same]
    rfl
  · rw [upd_ne nrp, upd_ne nrp, upd_ne n2]; exact hrl2
  · rw [upd_ne nop, upd_ne nop, upd_ne n3]; exact hol2
  · rw [upd_ne nwp, upd_ne nwp, upd_same]; rfl
theorem ok_put0 {f C D : Addr} {oc kV doc pm cdv ct : Value} {od an : Option Addr} {osl : Array (Option Value)} (lk : K.lookup f = some ⟨oc, od, .func (PySem.W.fnOf "put" "Reader.put" (defArgs sPut) (defBody sPut) (defScope sPut) .none kV doc pm an cdv ct), osl⟩) (hcd : PySem.W.codeIn K cdv "Reader.put" = true) (T : RdT K w mg C D) :
    FnR P w K mg base CX0 1 f (spPut C) := by
  have F := StX.fn_star (P := P) (w := w) (mg := mg) (base := base) (k := 0) (CX := CX0) (ps := ["self"]) (pv := "parts") (sp := spPut0 C) lk hcd scPut StX.cxUp_none (fun us rest h => match us, h with | [u], _ => bind_star (P := defArgs sPut) (x := "self") (y := "parts") rfl rfl rfl rfl rfl rfl u rest) (fun A outer s H vs Q E hr h => ?_)
  · intro A outer s H us vs Q E hr e0 r h
    obtain ⟨p, dx, rl, ol, wl, al, s0, B, row, rfl, G, hB, hB9, hrow, q⟩ := h
    refine F A outer s H us _ Q E hr e0 r ⟨[.ref p], row, rfl, rfl, sz (by omega), fun t ht => ?_⟩
    have s1 := same_new ht (.tup row)
    exact ⟨p, dx, rl, ol, wl, al, s0, B, t, row, rfl, G.same s1, hB, hB9, upd_same, fun H' k r => q H' ((K4.of s1).trans k) r⟩
  obtain ⟨p, dx, rl, ol, wl, al, s0, B, t, row, rfl, G, hB, hB9, ht, q⟩ := h
  refine ⟨_, (pss_cons (ps_expr (pe_bm PySem.F.plainAttrs_list PySem.F.slot_list_append PySem.F.type_list_append mt_append (pe_fld (pv 0) rfl) (pa_cons (pv 1) pa_nil)))
    (pss_one (ps_expr (pe_bm PySem.F.plainAttrs_list PySem.F.slot_list_append PySem.F.type_list_append mt_append (pe_fld (pv 0) rfl) (pa_cons (pe_op op_sub (pB1 call_len_seq T.len (pe_fld (pv 0) rfl)) pe_int) pa_nil))))), ?_⟩
  obtain ⟨ts, h1, h2⟩ := G.r
  have hl : ts.length = s0.rows.length := Paired.length h2
  have hb := hB.b
  have ho := hB.o
  refine ⟨_, rfl, p, C, dx, _, _, rfl, G.o, T.cl, T.nR, rf_rows _ _ _ _ _, .inl ⟨rfl, _, SqL.of h1⟩, _, rfl, rl, _, _, rfl, rfl, h1, small_lt (by rw [List.length_map]; omega), ?_⟩
  obtain ⟨G1, k1⟩ := G.addR h1 h2 ht
  have hr1 : (upd H rl (.lst (ts.map V.ref ++ [.ref t]))) rl = some (.lst (ts.map V.ref ++ [.ref t])) := upd_same
  generalize upd H rl (.lst (ts.map V.ref ++ [.ref t])) = H1 at *
  refine ⟨_, rfl, p, C, dx, _, _, rfl, G1.o, T.cl, T.nO, rf_operands _ _ _ _ _, .inl ⟨rfl, _, SqL.of G1.p⟩, _, rfl, p, C, dx, _, _, rfl, G1.o, T.cl, T.nR, rf_rows _ _ _ _ _, rl, _, rfl, .inl (SqL.of hr1), _, _, rfl, rfl, ol, _, _, rfl, rfl, G1.p, small_lt (by rw [List.length_map]; show s0.ops.length < _; omega), ?_⟩
  obtain ⟨G2, k2⟩ := G1.setO (xs := s0.ops ++ [s0.rows.length]) (vs := s0.ops.map RS.nV ++ [.int (((ts.map V.ref ++ [V.ref t]).length : Int) - 1)]) (by
    rw [List.map_append]
    refine congrArg (fun z => s0.ops.map RS.nV ++ [V.int z]) ?_
    rw [List.length_append, List.length_map, hl]
    show ((s0.rows.length + 1 : Nat) : Int) - 1 = _
    omega)
  exact q _ (k1.trans k2) G2
end
end W8

set_option Elab.async false
set_option linter.all false
set_option maxRecDepth 100000
set_option maxHeartbeats 4000000
namespace W8
open PySem L2
theorem sg_iff {c k : Nat} {z : Str} (e : z = S [k]) : (V.str (S [c]) = V.str z) ↔ c = k := by
  rw [e]
  constructor
  · intro h
    have := S_inj (by injection h : S [c] = S [k])
    injection this
  · rintro rfl
    rfl
theorem sg_t {c k : Nat} {z : Str} (e : z = S [k]) (h : decide (V.str (S [c]) = V.str z) = true) : c = k := (sg_iff e).mp (of_decide_eq_true h)
theorem sg_f {c k : Nat} {z : Str} (e : z = S [k]) (h : ¬ decide (V.str (S [c]) = V.str z) = true) : c ≠ k := fun x => h (decide_eq_true ((sg_iff e).mpr x))
theorem c126 : ("~" : Str) = S [126] := by decide +kernel
theorem c43 : ("+" : Str) = S [43] := by decide +kernel
theorem c124 : ("|" : Str) = S [124] := by decide +kernel
theorem c40 : ("(" : Str) = S [40] := by decide +kernel
theorem c46 : ("." : Str) = S [46] := by decide +kernel
theorem c48 : ("0" : Str) = S [48] := by decide +kernel
theorem c49 : ("1" : Str) = S [49] := by decide +kernel
theorem c42 : ("*" : Str) = S [42] := by decide +kernel
theorem c41 : (")" : Str) = S [41] := by decide +kernel
section
variable {P : Program} {w : World} {K : PySem.W.Frag} {mg : Str → Option Value} {base : Heap}
theorem ok_combine {f C D : Addr} {fd : FuncData} (F : Fun K "combine" "Reader.combine" sCombine f fd) (T : RdT K w mg C D) (cp : MCalR P w K mg base C "put" 1 (spPut C)) : FnOk P w K mg base CX0 2 f fd ["self"] (spCombine C) := by
  refine F.ok scCombine (fun vs H Q E h => ?_) (fun cdv A outer s H vs Q E hr h => ?_)
  · obtain ⟨p, dx, rl, ol, wl, al, s, t, B, rfl, _⟩ := h
    rfl
  obtain ⟨p, dx, rl, ol, wl, al, s, t, B, rfl, G, hB, hB9, hc, q⟩ := h
  obtain ⟨f1, F1, m1, bm1⟩ := cp.ex
  refine ⟨_, (pss_cons (ps_set (i := 1) scCombine.nd rfl (Or.inl rfl) (pe_bm0 PySem.F.plainAttrs_list PySem.F.slot_list_pop PySem.F.type_list_pop mt_pop (pe_fld (pv 0) rfl)))
    (pss_cons (ps_set (i := 2) scCombine.nd rfl (Or.inl rfl) (pe_bm0 PySem.F.plainAttrs_list PySem.F.slot_list_pop PySem.F.type_list_pop mt_pop (pe_fld (pv 0) rfl)))
    (pss_cons (ps_if (pt_cmpR op_eq (pv 1) pe_str (nomark _))
      (pss_cons (ps_expr (pe_methR (pv 0) T.cl m1 F1 hr pass0 (pa_cons pe_str (pa_cons (pv 2) pa_nil))))
      (pss_one ps_retN))
      pss_nil)
    (pss_cons (ps_set (i := 3) scCombine.nd rfl (Or.inl rfl) (pe_bm0 PySem.F.plainAttrs_list PySem.F.slot_list_pop PySem.F.type_list_pop mt_pop (pe_fld (pv 0) rfl)))
    (pss_one (ps_if (pt_cmpR op_eq (pv 1) pe_str (nomark _))
      (pss_one (ps_expr (pe_methR (pv 0) T.cl m1 F1 hr pass0 (pa_cons pe_str (pa_cons (pv 3) (pa_cons (pv 2) pa_nil))))))
      (pss_one (ps_if (pt_cmpR op_eq (pv 1) pe_str (nomark _))
        (pss_one (ps_expr (pe_methR (pv 0) T.cl m1 F1 hr pass0 (pa_cons pe_str (pa_cons (pv 3) (pa_cons (pv 2) pa_nil))))))
        (pss_cons (ps_set (i := 4) scCombine.nd rfl (Or.inl rfl) (pB1 call_len_seq T.len (pe_fld (pv 0) rfl)))
        (pss_cons (ps_expr (pe_bm PySem.F.plainAttrs_list PySem.F.slot_list_append PySem.F.type_list_append mt_append (pe_fld (pv 0) rfl) (pa_cons (pe_tup (pa_cons pe_str (pa_cons (pv 3) pa_nil))) pa_nil)))
        (pss_cons (ps_expr (pe_bm PySem.F.plainAttrs_list PySem.F.slot_list_append PySem.F.type_list_append mt_append (pe_fld (pv 0) rfl) (pa_cons (pe_tup (pa_cons pe_str (pa_cons (pv 2) pa_nil))) pa_nil)))
        (pss_cons (ps_expr (pe_bm PySem.F.plainAttrs_list PySem.F.slot_list_append PySem.F.type_list_append mt_append (pe_fld (pv 0) rfl) (pa_cons (pe_tup (pa_cons pe_str (pa_cons (pv 4) (pa_cons (pe_op op_add (pv 4) pe_int) pa_nil)))) pa_nil)))
        (pss_one (ps_expr (pe_methR (pv 0) T.cl m1 F1 hr pass0 (pa_cons pe_str (pa_cons (pe_op op_add (pv 4) pe_int) pa_nil))))))))))))))))), ?_⟩
  unfold RS.combine at hc
  split at hc
  case h_2 => cases hc
  case h_1 c l hw hl =>
  obtain ⟨hw1, h4⟩ := RS.popW_ok hB hw
  -- sign, last
  refine ⟨_, rfl, p, C, dx, _, _, rfl, G.o, T.cl, T.nW, rf_waiting _ _ _ _ _, .inl ⟨rfl, _, SqL.of G.w⟩, wl, _, _, rfl, rfl, G.w, last_map sgV hw, ?_⟩
  obtain ⟨G1, k1⟩ := G.setW (xs := s.wait.dropLast) (vs := (s.wait.map sgV).dropLast) List.map_dropLast.symm
  generalize upd H wl (.lst (s.wait.map sgV).dropLast) = H1 at *
  refine ⟨_, rfl, p, C, dx, _, _, rfl, G1.o, T.cl, T.nO, rf_operands _ _ _ _ _, .inl ⟨rfl, _, SqL.of G1.p⟩, ol, _, _, rfl, rfl, G1.p, last_map RS.nV hl, ?_⟩
  obtain ⟨G2, k2⟩ := G1.setO (xs := s.ops.dropLast) (vs := (s.ops.map RS.nV).dropLast) List.map_dropLast.symm
  generalize upd H1 ol (.lst (s.ops.map RS.nV).dropLast) = H2 at *
  have hw2 := RS.popO_ok hw1
  refine ⟨_, rfl, rfl, _, rfl, ?_⟩
  refine ite2 (fun e => ?_) (fun e => ?_)
  · rw [if_pos (sg_t c126 e)] at hc
    cases hc
    exact ⟨_, rfl, p, dx, _, rfl, G2.o, rf_no _ _ _ _ _ (by decide +kernel), _, rfl, p, dx, rl, ol, wl, al, _, _, [.str "not", RS.nV l], rfl, G2, hw2, by omega, by show 2 ≤ 1000; decide, fun H3 k3 G3 => q H3 (k1.trans (k2.trans k3)) G3⟩
  rw [if_neg (sg_f c126 e)] at hc
  split at hc
  case h_2 => cases hc
  case h_1 fi hf =>
  refine ⟨_, rfl, p, C, dx, _, _, rfl, G2.o, T.cl, T.nO, rf_operands _ _ _ _ _, .inl ⟨rfl, _, SqL.of G2.p⟩, ol, _, _, rfl, rfl, G2.p, last_map RS.nV hf, ?_⟩
  obtain ⟨G3, k3⟩ := G2.setO (xs := s.ops.dropLast.dropLast) (vs := (s.ops.dropLast.map RS.nV).dropLast) List.map_dropLast.symm
  generalize upd H2 ol (.lst (s.ops.dropLast.map RS.nV).dropLast) = H3 at *
  have hw3 := RS.popO_ok hw2
  have k123 := k1.trans (k2.trans k3)
  refine ⟨_, rfl, rfl, _, rfl, ?_⟩
  refine ite2 (fun e => ?_) (fun e => ?_)
  · rw [if_pos (sg_t c43 e)] at hc
    cases hc
    exact ⟨_, rfl, p, dx, _, rfl, G3.o, rf_no _ _ _ _ _ (by decide +kernel), _, rfl, _, rfl, p, dx, rl, ol, wl, al, _, _, [.str "then", RS.nV fi, RS.nV l], rfl, G3, hw3, by omega, by show 3 ≤ 1000; decide, fun H4 k4 G4 => q H4 (k123.trans k4) G4⟩
  rw [if_neg (sg_f c43 e)] at hc
  refine ⟨_, rfl, rfl, _, rfl, ?_⟩
  refine ite2 (fun e => ?_) (fun e => ?_)
  · rw [if_pos (sg_t c124 e)] at hc
    cases hc
    exact ⟨_, rfl, p, dx, _, rfl, G3.o, rf_no _ _ _ _ _ (by decide +kernel), _, rfl, _, rfl, p, dx, rl, ol, wl, al, _, _, [.str "or", RS.nV fi, RS.nV l], rfl, G3, hw3, by omega, by show 3 ≤ 1000; decide, fun H4 k4 G4 => q H4 (k123.trans k4) G4⟩
  rw [if_neg (sg_f c124 e)] at hc
  cases hc
  have hb := hw3.b
  obtain ⟨ts, h1, h2⟩ := G3.r
  have hlt : ts.length = s.rows.length := Paired.length h2
  have hsm : s.rows.length ≤ 90000 := by have : s.rows.length + 4 * _ ≤ B - 4 := hb; omega
  refine ⟨_, rfl, p, C, dx, _, _, rfl, G3.o, T.cl, T.nR, rf_rows _ _ _ _ _, rl, _, rfl, .inl (SqL.of h1), ?_⟩
  rw [show ((ts.map V.ref).length : Int) = ((s.rows.length : Nat) : Int) by rw [List.length_map, hlt]]
  -- rows.append(("not", first))
  refine ⟨_, rfl, p, C, dx, _, _, rfl, G3.o, T.cl, T.nR, rf_rows _ _ _ _ _, .inl ⟨rfl, _, SqL.of h1⟩, _, rfl, by show 2 ≤ sizeLine; decide, fun t1 ht1 => ?_⟩
  have s4 := same_new ht1 (.tup [.str "not", RS.nV fi])
  have ht1' : (upd H3 t1 (.tup [.str "not", RS.nV fi])) t1 = some (.tup [.str "not", RS.nV fi]) := upd_same
  have e4 : upd H3 t1 (.tup [.str "not", .int (fi : Int)]) = upd H3 t1 (.tup [.str "not", RS.nV fi]) := rfl
  have G4 := G3.same s4
  have h1' := s4 _ _ h1
  have h2' := Paired.mapP h2 fun _ _ z => s4 _ _ z
  refine ⟨rl, _, _, rfl, rfl, h1', small_lt (by rw [List.length_map]; omega), ?_⟩
  obtain ⟨G5, k5⟩ := G4.addR h1' h2' ht1'
  obtain ⟨ts5, g1, g2⟩ := G5.r
  have hl5 : ts5.length = s.rows.length + 1 := by rw [Paired.length g2]; show (s.rows ++ [_]).length = _; rw [List.length_append]; rfl
  generalize upd (upd H3 t1 (.tup [.str "not", RS.nV fi])) rl (.lst (ts.map V.ref ++ [.ref t1])) = H5 at *
  refine ⟨_, rfl, p, C, dx, _, _, rfl, G5.o, T.cl, T.nR, rf_rows _ _ _ _ _, .inl ⟨rfl, _, SqL.of g1⟩, _, rfl, by show 2 ≤ sizeLine; decide, fun t2 ht2 => ?_⟩
  have s6 := same_new ht2 (.tup [.str "not", RS.nV l])
  have ht2' : (upd H5 t2 (.tup [.str "not", RS.nV l])) t2 = some (.tup [.str "not", RS.nV l]) := upd_same
  have G6 := G5.same s6
  have g1' := s6 _ _ g1
  have g2' := Paired.mapP g2 fun _ _ z => s6 _ _ z
  refine ⟨rl, _, _, rfl, rfl, g1', small_lt (by rw [List.length_map]; omega), ?_⟩
  obtain ⟨G7, k7⟩ := G6.addR g1' g2' ht2'
  obtain ⟨ts7, i1, i2⟩ := G7.r
  have hl7 : ts7.length = s.rows.length + 2 := by rw [Paired.length i2]; show ((s.rows ++ [_]) ++ [_]).length = _; rw [List.length_append, List.length_append]; rfl
  generalize upd (upd H5 t2 (.tup [.str "not", RS.nV l])) rl (.lst (ts5.map V.ref ++ [.ref t2])) = H7 at *
  refine ⟨_, rfl, p, C, dx, _, _, rfl, G7.o, T.cl, T.nR, rf_rows _ _ _ _ _, .inl ⟨rfl, _, SqL.of i1⟩, _, rfl, _, rfl, _, _, rfl, rfl, by show 3 ≤ sizeLine; decide, fun t3 ht3 => ?_⟩
  have s8 := same_new ht3 (.tup [.str "or", RS.nV s.rows.length, RS.nV (s.rows.length + 1)])
  have ht3' : (upd H7 t3 (.tup [.str "or", RS.nV s.rows.length, RS.nV (s.rows.length + 1)])) t3 = some (.tup [.str "or", RS.nV s.rows.length, RS.nV (s.rows.length + 1)]) := upd_same
  have G8 := G7.same s8
  have i1' := s8 _ _ i1
  have i2' := Paired.mapP i2 fun _ _ z => s8 _ _ z
  refine ⟨rl, _, _, rfl, rfl, i1', small_lt (by rw [List.length_map]; omega), ?_⟩
  obtain ⟨G9, k9⟩ := G8.addR i1' i2' ht3'
  have kall := k123.trans ((K4.of s4).trans (k5.trans ((K4.of s6).trans (k7.trans ((K4.of s8).trans k9)))))
  refine ⟨_, rfl, p, dx, _, rfl, G9.o, rf_no _ _ _ _ _ (by decide +kernel), _, rfl, _, _, rfl, rfl, p, dx, rl, ol, wl, al, _, _, [.str "not", RS.nV (s.rows.length + 2)], rfl, G9, RS.addR_ok (RS.addR_ok (RS.addR_ok hw3)), by omega, by show 2 ≤ 1000; decide, fun H10 k10 G10 => q H10 (kall.trans k10) G10⟩
theorem ok_down {f C D : Addr} {fd : FuncData} (F : Fun K "combine_down_to" "Reader.combine_down_to" sDown f fd) (T : RdT K w mg C D) (cc : MCal P w K mg base C "combine" 2 ["self"] (spCombine C)) : FnOk P w K mg base CX0 3 f fd ["self", "binding"] (spDown C) := by
  refine F.ok scDown (fun vs H Q E h => ?_) (fun cdv A outer s H vs Q E hr h => ?_)
  · obtain ⟨p, dx, rl, ol, wl, al, s, t, B, b, rfl, _⟩ := h
    rfl
  obtain ⟨p, dx, rl, ol, wl, al, s, t, B, b, rfl, G, hB, hB9, hd, q⟩ := h
  obtain ⟨f1, fd1, F1, m1, b1⟩ := cc.ex
  refine ⟨_, (pss_one (ps_while PassesOwn.never (PW.pt (pw_and (pt_truth (pe_fld (pv 0) rfl) (by intro _; rfl)) (pw_and1 (pt_cmpR op_ge (pe_ix ix_kdict (pe_glob (v := .ref D) rfl T.mgB rfl) (pixL (pe_fld (pv 0) rfl) (pe_un un_neg pe_int)) (fun _ _ => rfl)) (pv 1) (nomark _)))))
      (pss_one (ps_expr (pe_meth0 (pv 0) T.cl m1 F1 hr b1 .nil pass0))))), ?_⟩
  refine ⟨fun m σ H' => σ = [some (.ref p), some (.int (b : Int))] ∧ ∃ s', RdAt H' p dx rl ol wl C al s' ∧ K4 p rl ol wl H H' ∧ RS.Ok s' B ∧ RS.down b m s' = some t, ⟨_, rfl, s, G, K4.of (Same.refl H), hB, hd⟩, ?_⟩
  rintro m σ H1 ⟨rfl, s1, G1, k1, hB1, hd1⟩
  cases m with
  | zero => cases hd1
  | succ n =>
  unfold RS.down at hd1
  refine ⟨_, rfl, p, C, dx, _, _, rfl, G1.o, T.cl, T.nW, rf_waiting _ _ _ _ _, _, .inl ⟨_, SqL.of G1.w, rfl⟩, ?_⟩
  split at hd1
  · rename_i hw
    cases hd1
    have e0 : t.wait = [] := List.getLast?_eq_none_iff.mp hw
    have e1 : (!(t.wait.map sgV).isEmpty) = false := by rw [e0]; rfl
    rw [e1]
    exact q H1 k1 G1
  · rename_i c hw
    have e1 : (!(s1.wait.map sgV).isEmpty) = true := by
      cases hh : s1.wait with
      | nil => rw [hh] at hw; cases hw
      | cons x xs => rfl
    rw [e1]
    split at hd1
    · cases hd1
    rename_i k hk
    refine ⟨_, rfl, p, C, dx, _, _, rfl, G1.o, T.cl, T.nW, rf_waiting _ _ _ _ _, _, rfl, wl, _, _, _, rfl, rfl, SqL.of G1.w, get_last sgV hw, D, _, _, rfl, rfl, T.bd c k hk, _, rfl, _, _, rfl, rfl, _, rfl, ?_⟩
    split at hd1
    · rename_i hbk
      rw [decide_eq_true (show ((b : Int) ≤ (k : Int)) by omega)]
      split at hd1
      · cases hd1
      rename_i u hu
      refine ⟨fun σ' H' => σ' = [some (.ref p), some (.int (b : Int))] ∧ RdAt H' p dx rl ol wl C al u ∧ K4 p rl ol wl H H', fun σ' H' ⟨e, g, k'⟩ => ⟨n, Nat.lt_succ_self _, e, u, g, k', (RS.combine_ok hB1 hu).1, hd1⟩, ?_⟩
      exact ⟨_, rfl, p, dx, _, rfl, G1.o, rf_no _ _ _ _ _ (by decide +kernel), p, dx, rl, ol, wl, al, s1, u, B, rfl, G1, hB1, hB9, hu, fun H2 k2 G2 => ⟨rfl, G2, k1.trans k2⟩⟩
    · rename_i hbk
      cases hd1
      rw [decide_eq_false (show ¬ ((b : Int) ≤ (k : Int)) by omega)]
      exact q H1 k1 G1
end
end W8

set_option Elab.async false
set_option linter.all false
set_option maxRecDepth 100000
set_option maxHeartbeats 4000000
namespace W8
open PySem PySem.Spec PyProof.Rows L2 L2E
abbrev sWait : Stmt := inClass (top 44) 4
theorem scWait : FnScope ["self", "sign"] ["self", "sign"] (defScope sWait) := ⟨rfl, rfl, rfl, by decide +kernel, rfl, by decide +kernel, by decide +kernel⟩
def spWait (C : Addr) : Sp := fun vs H Q _ => ∃ (p dx rl ol wl : Addr) (al : List Nat) (s t : RS) (B c : Nat), vs = [.ref p, .str (S [c])] ∧ RdAt H p dx rl ol wl C al s ∧ RS.Ok s B ∧ B ≤ 90000 ∧ RS.waitS s c = some t ∧ ∀ H', K4 p rl ol wl H H' → RdAt H' p dx rl ol wl C al t → Q .non H'
abbrev sBegin : Stmt := inClass (top 44) 5
theorem scBegin : FnScope ["self", "char", "first", "letter", "numbers"] ["self", "char"] (defScope sBegin) := ⟨rfl, rfl, rfl, by decide +kernel, rfl, by decide +kernel, by decide +kernel⟩
def spBegin (C : Addr) : Sp := fun vs H Q _ => ∃ (p dx rl ol wl : Addr) (al : List Nat) (s t : RS) (B c : Nat), vs = [.ref p, .str (S [c])] ∧ RdAt H p dx rl ol wl C al s ∧ RS.Ok s B ∧ B ≤ 80000 ∧ al.length ≤ 3 ∧ RS.begin1 al s c = some t ∧ ∀ H', K4 p rl ol wl H H' → RdAt H' p dx rl ol wl C al t → Q .non H'
/-- an error after the reader alone was changed -/
def ErrK (E : XK) (p rl ol wl : Addr) (C : Addr) (f : Str) (v : V) (H : Hp) : Prop := ∀ d H', K4 p rl ol wl H H' → H d = none → H' d = some (.xd [(f, v)]) → E (.ref C) (some d) H'
theorem ErrK.go {E : XK} {p rl ol wl C : Addr} {f : Str} {v : V} {H H1 : Hp} {d : Addr} (h : ErrK E p rl ol wl C f v H) (s : K4 p rl ol wl H H1) (hp : H1 p ≠ none) (h1 : H1 rl ≠ none) (h2 : H1 ol ≠ none) (h3 : H1 wl ≠ none) (n : H1 d = none) : E (.ref C) (some d) (upd H1 d (.xd [(f, v)])) := by
  refine h d _ (s.trans (K4.of (same_new n _))) ?_ upd_same
  cases hh : H d with
  | none => rfl
  | some o =>
    have := s d o (fun e => hp (e ▸ n)) (fun e => h1 (e ▸ n)) (fun e => h2 (e ▸ n)) (fun e => h3 (e ▸ n)) hh
    rw [n] at this
    cases this
theorem addL_snoc : ∀ (ls : List Nat) (s : RS) (l : Nat), s.addL (ls ++ [l]) = (s.addL ls).addR [.str "letter", .str (S [l])]
  | [], s, l => rfl
  | x :: ls, s, l => addL_snoc ls _ l
theorem addL_rows : ∀ (ls : List Nat) (s : RS), (s.addL ls).rows.length = s.rows.length + ls.length
  | [], s => rfl
  | x :: ls, s => by
    show ((s.addR _).addL ls).rows.length = _
    rw [addL_rows ls]
    show (s.rows ++ [_]).length + ls.length = s.rows.length + (ls.length + 1)
    rw [List.length_append]
    show s.rows.length + 1 + ls.length = _
    omega
section
variable {P : Program} {w : World} {K : PySem.W.Frag} {mg : Str → Option Value} {base : Heap}
theorem ok_wait {f C D : Addr} {fd : FuncData} (F : Fun K "wait" "Reader.wait" sWait f fd) (T : RdT K w mg C D) (cd : MCal P w K mg base C "combine_down_to" 3 ["self", "binding"] (spDown C)) : FnOk P w K mg base CX0 4 f fd ["self", "sign"] (spWait C) := by
  refine F.ok scWait (fun vs H Q E h => ?_) (fun cdv A outer s H vs Q E hr h => ?_)
  · obtain ⟨p, dx, rl, ol, wl, al, s, t, B, c, rfl, _⟩ := h
    rfl
  obtain ⟨p, dx, rl, ol, wl, al, s, t, B, c, rfl, G, hB, hB9, hw, q⟩ := h
  obtain ⟨f1, fd1, F1, m1, b1⟩ := cd.ex
  refine ⟨_, (pss_cons (ps_expr (pe_meth (pv 0) T.cl m1 F1 hr b1 .nil pass0 (pa_cons (pe_ix ix_kdict (pe_glob (v := .ref D) rfl T.mgB rfl) (pv 1) (fun _ _ => rfl)) pa_nil)))
    (pss_cons (ps_expr (pe_bm PySem.F.plainAttrs_list PySem.F.slot_list_append PySem.F.type_list_append mt_append (pe_fld (pv 0) rfl) (pa_cons (pv 1) pa_nil)))
    (pss_one (ps_fld (pv 0) pe_bl rfl)))), ?_⟩
  unfold RS.waitS at hw
  split at hw
  · cases hw
  rename_i b hb
  split at hw
  · cases hw
  rename_i u hu
  cases hw
  refine ⟨_, rfl, p, dx, _, rfl, G.o, rf_no _ _ _ _ _ (by decide +kernel), _, rfl, D, _, _, rfl, rfl, T.bd c b hb, p, dx, rl, ol, wl, al, s, u, B, b, rfl, G, hB, hB9, hu, fun H1 k1 G1 => ?_⟩
  have hBu := RS.down_ok hB hu
  refine ⟨_, rfl, p, C, dx, _, _, rfl, G1.o, T.cl, T.nW, rf_waiting _ _ _ _ _, .inl ⟨rfl, _, SqL.of G1.w⟩, _, rfl, wl, _, _, rfl, rfl, G1.w, small_lt (by rw [List.length_map]; have := hBu.b; omega), ?_⟩
  obtain ⟨G2, k2⟩ := G1.setW (xs := u.wait ++ [c]) (vs := u.wait.map sgV ++ [.str (S [c])]) (by rw [List.map_append]; rfl)
  generalize upd H1 wl (.lst (u.wait.map sgV ++ [.str (S [c])])) = H2 at *
  refine ⟨_, rfl, p, C, dx, _, rfl, G2.o, T.cl, T.nB, (by show 5 < 1000; decide), ?_⟩
  obtain ⟨G3, k3⟩ := G2.setB (b := false) (putF_ready _ _ _ _ _ (.bl false))
  exact q _ (k1.trans (k2.trans k3)) G3
theorem ok_begin {f C D : Addr} {fd : FuncData} (F : Fun K "begin" "Reader.begin" sBegin f fd) (T : RdT K w mg C D) (cw : MCal P w K mg base C "wait" 4 ["self", "sign"] (spWait C)) (cp : MCalR P w K mg base C "put" 1 (spPut C)) : FnOk P w K mg base CX0 5 f fd ["self", "char"] (spBegin C) := by
  refine F.ok scBegin (fun vs H Q E h => ?_) (fun cdv A outer sh H vs Q E hr h => ?_)
  · obtain ⟨p, dx, rl, ol, wl, al, s, t, B, c, rfl, _⟩ := h
    rfl
  obtain ⟨p, dx, rl, ol, wl, al, s, t, B, c, rfl, G, hB, hB8, h3, hw, q⟩ := h
  obtain ⟨f1, fd1, F1, m1, b1⟩ := cw.ex
  obtain ⟨f2, F2, m2, bm2⟩ := cp.ex
  have hr1 := hr.mono (show 1 ≤ 4 by decide)
  have tail : ∃ tb, PSs (cxOf CX0 P w K mg base ["self", "char", "first", "letter", "numbers"] "Reader.begin" (defScope sBegin) f cdv A outer sh H E).nox (defBody sBegin).tail tb ∧ ∀ H1 s1, K4 p rl ol wl H H1 → RdAt H1 p dx rl ol wl C al s1 → RS.Ok s1 (B + 4) → RS.begin2 al s1 c = t → tb { nx := fun _ H' => Q .non H', rt := Q } [some (.ref p), some (.str (S [c])), none, none, none] H1 := by
    refine ⟨_, (pss_cons (ps_if (PW.pt (pw_or (pt_cmpR op_eq (pv 1) pe_str (nomark _)) (pw_or1 (pt_cmpR op_eq (pv 1) pe_str (nomark _)))))
        (pss_cons (ps_expr (pe_bm PySem.F.plainAttrs_list PySem.F.slot_list_append PySem.F.type_list_append mt_append (pe_fld (pv 0) rfl) (pa_cons (pv 1) pa_nil)))
        (pss_one ps_retN))
        pss_nil)
      (pss_cons (ps_if (pt_cmpR op_eq (pv 1) pe_str (nomark _))
        (pss_cons (ps_set (i := 2) scBegin.nd rfl (Or.inl rfl) (pB1 call_len_seq T.len (pe_fld (pv 0) rfl)))
        (pss_cons (ps_for PassesOwn.never rfl (pi_str (pe_fld (pv 0) rfl)) (pg_name (i := 3) scBegin.nd rfl (Or.inl rfl))
          (pss_one (ps_expr (pe_bm PySem.F.plainAttrs_list PySem.F.slot_list_append PySem.F.type_list_append mt_append (pe_fld (pv 0) rfl) (pa_cons (pe_tup (pa_cons pe_str (pa_cons (pv 3) pa_nil))) pa_nil)))))
        (pss_cons (ps_set (i := 4) scBegin.nd rfl (Or.inl rfl) (pe_listRg rfl rfl T.lst (prg_2 rfl T.rng (pv 2) (pB1 call_len_seq T.len (pe_fld (pv 0) rfl)))))
        (pss_one (ps_expr (pe_methSB (pv 0) T.cl bm2 F2 hr1 pass0 pe_str (pv 4)))))))
        (pss_one (ps_if (pt_cmpR op_eq (pv 1) pe_str (nomark _))
          (pss_one (ps_expr (pe_methR (pv 0) T.cl m2 F2 hr1 pass0 (pa_cons pe_str pa_nil))))
          (pss_one (ps_if (pt_cmpR op_eq (pv 1) pe_str (nomark _))
            (pss_one (ps_expr (pe_methR (pv 0) T.cl m2 F2 hr1 pass0 (pa_cons pe_str pa_nil))))
            (pss_one (ps_expr (pe_methR (pv 0) T.cl m2 F2 hr1 pass0 (pa_cons pe_str (pa_cons (pv 1) pa_nil))))))))))
      (pss_one (ps_fld (pv 0) pe_bl rfl)))), fun H1 s1 k1 G1 hB1 e => ?_⟩
    unfold RS.begin2 at e
    have hb1 := hB1.b
    have ho1 := hB1.o
    -- waiting.append
    have push : (c = 40 ∨ c = 126) → ∀ (Q2 : V → Hp → Prop), (∀ H', K4 p rl ol wl H H' → RdAt H' p dx rl ol wl C al t → Q2 .non H') → rAppend (.ref wl) [.str (S [c])] H1 Q2 := fun hc Q2 q2 => by
      rw [if_pos hc] at e
      cases e
      obtain ⟨G2, k2⟩ := G1.setW (xs := s1.wait ++ [c]) (vs := s1.wait.map sgV ++ [.str (S [c])]) (by rw [List.map_append]; rfl)
      exact ⟨wl, _, _, rfl, rfl, G1.w, small_lt (by rw [List.length_map]; omega), q2 _ (k1.trans k2) G2⟩
    refine ⟨_, rfl, rfl, _, rfl, ?_⟩
    refine ite2 (fun h1 => ?_) (fun h1 => ?_)
    · refine ite2 (fun _ => ?_) (fun z => absurd rfl z)
      refine ⟨_, rfl, p, C, dx, _, _, rfl, G1.o, T.cl, T.nW, rf_waiting _ _ _ _ _, .inl ⟨rfl, _, SqL.of G1.w⟩, _, rfl, ?_⟩
      exact push (.inl (sg_t c40 h1)) _ q
    refine ⟨_, rfl, rfl, _, rfl, ?_⟩
    refine ite2 (fun h2 => ?_) (fun h2 => ?_)
    · refine ⟨_, rfl, p, C, dx, _, _, rfl, G1.o, T.cl, T.nW, rf_waiting _ _ _ _ _, .inl ⟨rfl, _, SqL.of G1.w⟩, _, rfl, ?_⟩
      exact push (.inr (sg_t c126 h2)) _ q
    rw [if_neg (fun z => z.elim (sg_f c40 h1) (sg_f c126 h2))] at e
    refine ⟨_, rfl, rfl, _, rfl, ?_⟩
    refine ite2 (fun h3 => ?_) (fun h3 => ?_)
    · rw [if_pos (sg_t c46 h3)] at e
      obtain ⟨ts, g1, g2⟩ := G1.r
      have hlt : ts.length = s1.rows.length := Paired.length g2
      refine ⟨_, rfl, p, C, dx, _, _, rfl, G1.o, T.cl, T.nR, rf_rows _ _ _ _ _, rl, _, rfl, .inl (SqL.of g1), ?_⟩
      rw [show ((ts.map V.ref).length : Int) = ((s1.rows.length : Nat) : Int) by rw [List.length_map, hlt]]
      refine ⟨_, rfl, p, C, dx, _, _, rfl, G1.o, T.cl, T.nL, rf_letters _ _ _ _ _, _, rfl, ?_⟩
      refine L2.for_it L2.walk_str (fun i σ H' => ∃ (x : Option V), σ = [some (.ref p), some (.str (S [c])), some (.int (s1.rows.length : Int)), x, none] ∧ K4 p rl ol wl H H' ∧ RdAt H' p dx rl ol wl C al (s1.addL (al.take i)))
        ⟨none, rfl, k1, G1⟩ (fun _ _ _ _ _ => trivial) ?_ ?_
      · rintro i x σ H2 H3 hi ⟨x1, rfl, k2, G2⟩ ⟨rfl, l, hl, rfl⟩
        have hl' : al[i]? = some l := by
          rw [← hl]
          show al[i]? = al.toArray[i]?
          simp
        have hi3 : i < al.length := (List.getElem?_eq_some_iff.mp hl').1
        obtain ⟨ts2, p1, p2⟩ := G2.r
        have hl2 : ts2.length = s1.rows.length + i := by rw [Paired.length p2, addL_rows, List.length_take]; omega
        refine ⟨_, rfl, p, C, dx, _, _, rfl, G2.o, T.cl, T.nR, rf_rows _ _ _ _ _, .inl ⟨rfl, _, SqL.of p1⟩, _, rfl, by show 2 ≤ sizeLine; decide, fun t2 ht2 => ?_⟩
        have s6 := same_new ht2 (.tup [.str "letter", .str (S [l])])
        have ht2' : (upd H3 t2 (.tup [.str "letter", .str (S [l])])) t2 = some (.tup [.str "letter", .str (S [l])]) := upd_same
        have G6 := G2.same s6
        have p1' := s6 _ _ p1
        have p2' := Paired.mapP p2 fun _ _ z => s6 _ _ z
        obtain ⟨G7, k7⟩ := G6.addR p1' p2' ht2'
        refine ⟨rl, _, _, rfl, rfl, p1', small_lt (by rw [List.length_map]; omega), _, rfl, k2.trans ((K4.of s6).trans k7), ?_⟩
        rw [List.take_add_one, hl']
        show RdAt _ p dx rl ol wl C al (s1.addL (al.take i ++ [l]))
        rw [addL_snoc]
        exact G7
      · rintro σ H2 ⟨x1, rfl, k2, G2⟩
        have e2 : al.take (S al).cps.size = al := List.take_of_length_le (by show al.length ≤ al.toArray.size; simp)
        rw [e2] at G2
        obtain ⟨ts2, p1, p2⟩ := G2.r
        have hl2 : ts2.length = s1.rows.length + al.length := by rw [Paired.length p2, addL_rows]
        refine ⟨_, rfl, _, rfl, p, C, dx, _, _, rfl, G2.o, T.cl, T.nR, rf_rows _ _ _ _ _, rl, _, rfl, .inl (SqL.of p1), _, _, rfl, rfl, ?_⟩
        rw [show ((ts2.map V.ref).length : Int) = ((s1.rows.length + al.length : Nat) : Int) by rw [List.length_map, hl2]]
        have hrg : rgV (s1.rows.length : Int) ((s1.rows.length + al.length : Nat) : Int) = (List.range al.length).map fun i => RS.nV (s1.rows.length + i) := by
          unfold rgV
          rw [show (((s1.rows.length + al.length : Nat) : Int) - (s1.rows.length : Int)).toNat = al.length by omega]
          exact List.map_congr_left fun i _ => congrArg V.int (by omega)
        refine ⟨RgOk.of_le (by omega) (by omega) (by omega) (by omega), fun nl hnl => ?_⟩
        rw [hrg]
        have s3 := same_new hnl (.lst ((List.range al.length).map fun i => RS.nV (s1.rows.length + i)))
        have g3 : upd H2 nl (.lst ((List.range al.length).map fun i => RS.nV (s1.rows.length + i))) nl = some (.lst ((List.range al.length).map fun i => RS.nV (s1.rows.length + i))) := upd_same
        generalize upd H2 nl (.lst ((List.range al.length).map fun i => RS.nV (s1.rows.length + i))) = H3 at *
        have G3 := G2.same s3
        refine ⟨_, rfl, p, dx, _, rfl, G3.o, rf_no _ _ _ _ _ (by decide +kernel), fun mq hmq => ?_⟩
        have s4 := same_new hmq (.met f2 p)
        refine ⟨_, rfl, nl, _, rfl, .inr (SqL.of (s4 _ _ g3)), upd_same, p, dx, rl, ol, wl, al, s1.addL al, B + 4 + al.length, _, rfl, G3.same s4, RS.addL_ok hB1, by omega, by show (List.map _ _).length + 1 ≤ 1000; rw [List.length_map, List.length_range]; omega, fun H5 k5 G5 => ?_⟩
        refine ⟨_, rfl, p, C, dx, _, rfl, G5.o, T.cl, T.nB, (by show 5 < 1000; decide), ?_⟩
        obtain ⟨G6, k6⟩ := G5.setB (b := true) (putF_ready _ _ _ _ _ (.bl true))
        exact q _ (k2.trans ((K4.of s3).trans ((K4.of s4).trans (k5.trans k6)))) (e ▸ G6)
    rw [if_neg (sg_f c46 h3)] at e
    refine ⟨_, rfl, rfl, _, rfl, ?_⟩
    refine ite2 (fun h4 => ?_) (fun h4 => ?_)
    · rw [if_pos (sg_t c48 h4)] at e
      refine ⟨_, rfl, p, dx, _, rfl, G1.o, rf_no _ _ _ _ _ (by decide +kernel), p, dx, rl, ol, wl, al, s1, B + 4, [.str "or"], rfl, G1, hB1, by omega, by show 1 ≤ 1000; decide, fun H5 k5 G5 => ?_⟩
      refine ⟨_, rfl, p, C, dx, _, rfl, G5.o, T.cl, T.nB, (by show 5 < 1000; decide), ?_⟩
      obtain ⟨G6, k6⟩ := G5.setB (b := true) (putF_ready _ _ _ _ _ (.bl true))
      exact q _ (k1.trans (k5.trans k6)) (e ▸ G6)
    rw [if_neg (sg_f c48 h4)] at e
    refine ⟨_, rfl, rfl, _, rfl, ?_⟩
    refine ite2 (fun h5 => ?_) (fun h5 => ?_)
    · rw [if_pos (sg_t c49 h5)] at e
      refine ⟨_, rfl, p, dx, _, rfl, G1.o, rf_no _ _ _ _ _ (by decide +kernel), p, dx, rl, ol, wl, al, s1, B + 4, [.str "empty"], rfl, G1, hB1, by omega, by show 1 ≤ 1000; decide, fun H5 k5 G5 => ?_⟩
      refine ⟨_, rfl, p, C, dx, _, rfl, G5.o, T.cl, T.nB, (by show 5 < 1000; decide), ?_⟩
      obtain ⟨G6, k6⟩ := G5.setB (b := true) (putF_ready _ _ _ _ _ (.bl true))
      exact q _ (k1.trans (k5.trans k6)) (e ▸ G6)
    rw [if_neg (sg_f c49 h5)] at e
    refine ⟨_, rfl, p, dx, _, rfl, G1.o, rf_no _ _ _ _ _ (by decide +kernel), _, rfl, p, dx, rl, ol, wl, al, s1, B + 4, [.str "letter", .str (S [c])], rfl, G1, hB1, by omega, by show 2 ≤ 1000; decide, fun H5 k5 G5 => ?_⟩
    refine ⟨_, rfl, p, C, dx, _, rfl, G5.o, T.cl, T.nB, (by show 5 < 1000; decide), ?_⟩
    obtain ⟨G6, k6⟩ := G5.setB (b := true) (putF_ready _ _ _ _ _ (.bl true))
    exact q _ (k1.trans (k5.trans k6)) (e ▸ G6)
  obtain ⟨tb, htb, hk⟩ := tail
  refine ⟨_, pss_cons (ps_if (pt_truth (pe_fld (pv 0) rfl) (by intro _; rfl)) (pss_one (ps_expr (pe_meth (pv 0) T.cl m1 F1 hr b1 .nil pass0 (pa_cons pe_str pa_nil)))) pss_nil) htb, ?_⟩
  refine ⟨_, rfl, p, C, dx, _, _, rfl, G.o, T.cl, T.nB, rf_ready _ _ _ _ _, _, rfl, ?_⟩
  unfold RS.begin1 at hw
  refine ite2 (fun h1 => ?_) (fun h1 => ?_)
  · rw [if_pos h1] at hw
    split at hw
    · cases hw
    rename_i u hu
    cases hw
    exact ⟨_, rfl, p, dx, _, rfl, G.o, rf_no _ _ _ _ _ (by decide +kernel), p, dx, rl, ol, wl, al, s, u, B, 43, by rw [c43]; rfl, G, hB, by omega, hu, fun H1 k1 G1 => hk H1 u k1 G1 (RS.waitS_ok hB hu) rfl⟩
  · rw [if_neg h1] at hw
    cases hw
    exact hk H s (K4.of (Same.refl H)) G (hB.le (by omega)) rfl
end
end W8

set_option Elab.async false
set_option linter.all false
set_option maxRecDepth 100000
set_option maxHeartbeats 4000000
namespace W8
open PySem PySem.Spec PyProof.Rows L2 L2E
/-- the classes of errors that books raise -/
structure BkE (P : Program) (K : PySem.W.Frag) (mg : Str → Option Value) (c : Nat → Addr) (fT fN fL : Addr) : Prop where
  t : PySem.XM.XmC P K (c 11) (c 11) fT "index"
  n : PySem.XM.XmC P K (c 12) (c 12) fN "name"
  l : PySem.XM.XmC P K (c 15) (c 15) fL "limit"
  sup : mg "super" = none
  mT : mg "TextError" = some (.ref (c 11))
  mN : mg "NameFault" = some (.ref (c 12))
  mL : mg "LimitError" = some (.ref (c 15))
abbrev sClose : Stmt := inClass (top 44) 6
theorem scClose : FnScope ["self", "index"] ["self", "index"] (defScope sClose) := ⟨rfl, rfl, rfl, by decide +kernel, rfl, by decide +kernel, by decide +kernel⟩
def spClose (c : Nat → Addr) (C : Addr) : Sp := fun vs H Q E => ∃ (p dx rl ol wl : Addr) (al : List Nat) (s : RS) (r : Option RS) (B i : Nat), vs = [.ref p, .int (i : Int)] ∧ RdAt H p dx rl ol wl C al s ∧ RS.Ok s B ∧ B ≤ 90000 ∧ RS.close s = some r ∧ (∀ t, r = some t → ∀ H', K4 p rl ol wl H H' → RdAt H' p dx rl ol wl C al t → Q .non H') ∧ (r = none → ErrK E p rl ol wl (c 11) "index" (.int (i : Int)) H)
abbrev sTake : Stmt := inClass (top 44) 7
theorem scTake : FnScope ["self", "index", "char"] ["self", "index", "char"] (defScope sTake) := ⟨rfl, rfl, rfl, by decide +kernel, rfl, by decide +kernel, by decide +kernel⟩
def spTake (c : Nat → Addr) (C : Addr) : Sp := fun vs H Q E => ∃ (p dx rl ol wl : Addr) (al : List Nat) (s : RS) (r : Option RS) (B i ch : Nat), vs = [.ref p, .int (i : Int), .str (S [ch])] ∧ RdAt H p dx rl ol wl C al s ∧ RS.Ok s B ∧ B ≤ 80000 ∧ al.length ≤ 3 ∧ RS.take al s ch = some r ∧ (∀ t, r = some t → ∀ H', K4 p rl ol wl H H' → RdAt H' p dx rl ol wl C al t → Q .non H') ∧ (r = none → ErrK E p rl ol wl (c 11) "index" (.int (i : Int)) H)
theorem RdAt.some_ {H : Hp} {p dx rl ol wl C : Addr} {al : List Nat} {s : RS} (G : RdAt H p dx rl ol wl C al s) : H p ≠ none ∧ H rl ≠ none ∧ H ol ≠ none ∧ H wl ≠ none := by
  obtain ⟨ts, h1, _⟩ := G.r
  exact ⟨(by rw [G.o]; simp), (by rw [h1]; simp), (by rw [G.p]; simp), (by rw [G.w]; simp)⟩
theorem mem_sg {c : Nat} {z : Str} {l : List Nat} (e : z = S l) : (c ∈ z.cps.toList) ↔ c ∈ l := by
  rw [e]
  exact Iff.rfl
section
variable {P : Program} {w : World} {K : PySem.W.Frag} {mg : Str → Option Value} {base : Heap} {c : Nat → Addr} {fT fN fL : Addr}
theorem ok_close {f C D : Addr} {fd : FuncData} (F : Fun K "close" "Reader.close" sClose f fd) (T : RdT K w mg C D) (X : BkE P K mg c fT fN fL) (cd : MCal P w K mg base C "combine_down_to" 3 ["self", "binding"] (spDown C)) : FnOk P w K mg base (L2N.CX P w) 4 f fd ["self", "index"] (spClose c C) := by
  refine okN F scClose (fun vs H Q E h => ?_) (fun cdv A outer s H vs Q E hr h => ?_)
  · obtain ⟨p, dx, rl, ol, wl, al, s, r, B, i, rfl, _⟩ := h
    rfl
  obtain ⟨p, dx, rl, ol, wl, al, s, r, B, i, rfl, G, hB, hB9, hc, q, e0⟩ := h
  obtain ⟨f1, fd1, F1, m1, b1⟩ := cd.ex
  refine ⟨_, (pss_cons (ps_expr (pe_meth (pv 0) T.cl m1 F1 hr b1 .nil pass0 (pa_cons pe_int pa_nil)))
    (pss_cons (ps_if (pt_not (pt_truth (pe_fld (pv 0) rfl) (by intro _; rfl)))
      (pss_one (L2N.ps_raise rfl (L2N.takes_of rfl rfl rfl rfl) (L2N.pmk_xm X.t hr X.mT X.sup (pa_cons (pv 1) pa_nil))))
      pss_nil)
    (pss_one (ps_expr (pe_bm0 PySem.F.plainAttrs_list PySem.F.slot_list_pop PySem.F.type_list_pop mt_pop (pe_fld (pv 0) rfl)))))), ?_⟩
  unfold RS.close at hc
  split at hc
  · cases hc
  rename_i u hu
  refine ⟨_, rfl, p, dx, _, rfl, G.o, rf_no _ _ _ _ _ (by decide +kernel), p, dx, rl, ol, wl, al, s, u, B, 1, rfl, G, hB, hB9, hu, fun H1 k1 G1 => ?_⟩
  obtain ⟨n1, n2, n3, n4⟩ := G1.some_
  refine ⟨_, rfl, p, C, dx, _, _, rfl, G1.o, T.cl, T.nW, rf_waiting _ _ _ _ _, _, .inl ⟨_, SqL.of G1.w, rfl⟩, ?_⟩
  cases hw : u.wait with
  | nil =>
    rw [if_pos hw] at hc
    cases hc
    exact ⟨_, rfl, _, rfl, fun d hd => (e0 rfl).go k1 n1 n2 n3 n4 hd⟩
  | cons x xs =>
    rw [if_neg (by rw [hw]; exact fun z => nomatch z)] at hc
    cases hc
    obtain ⟨y, hy⟩ : ∃ y, u.wait.getLast? = some y := by
      cases z : u.wait.getLast? with
      | none => rw [List.getLast?_eq_none_iff.mp z] at hw; cases hw
      | some y => exact ⟨y, rfl⟩
    refine ⟨_, rfl, p, C, dx, _, _, rfl, G1.o, T.cl, T.nW, rf_waiting _ _ _ _ _, .inl ⟨rfl, _, SqL.of G1.w⟩, wl, _, _, rfl, rfl, G1.w, last_map sgV hy, ?_⟩
    obtain ⟨G2, k2⟩ := G1.setW (xs := u.wait.dropLast) (vs := (u.wait.map sgV).dropLast) List.map_dropLast.symm
    exact q _ rfl _ (k1.trans k2) G2
theorem ok_take {f C D : Addr} {fd : FuncData} (F : Fun K "take" "Reader.take" sTake f fd) (T : RdT K w mg C D) (X : BkE P K mg c fT fN fL) (cb : MCal P w K mg base C "begin" 5 ["self", "char"] (spBegin C)) (cw : MCal P w K mg base C "wait" 4 ["self", "sign"] (spWait C)) (cp : MCalR P w K mg base C "put" 1 (spPut C)) (cc : MCalX P w K mg base C "close" 4 ["self", "index"] (spClose c C)) : FnOk P w K mg base (L2N.CX P w) 6 f fd ["self", "index", "char"] (spTake c C) := by
  refine okN F scTake (fun vs H Q E h => ?_) (fun cdv A outer s H vs Q E hr h => ?_)
  · obtain ⟨p, dx, rl, ol, wl, al, s, r, B, i, ch, rfl, _⟩ := h
    rfl
  obtain ⟨p, dx, rl, ol, wl, al, s, r, B, i, ch, rfl, G, hB, hB8, h3, hc, q, e0⟩ := h
  obtain ⟨f1, fd1, F1, m1, b1⟩ := cb.ex
  obtain ⟨f2, fd2, F2, m2, b2⟩ := cw.ex
  obtain ⟨f3, F3, m3, bm3⟩ := cp.ex
  obtain ⟨f4, fd4, F4, m4, b4⟩ := cc.ex
  have hr1 := hr.mono (show 1 ≤ 5 by decide)
  have hr4 := hr.mono (show 4 ≤ 5 by decide)
  refine ⟨_, (pss_cons (ps_if (PW.pt (pw_or (pt_cmpR op_in_sign (pv 2) (pe_fld (pv 0) rfl) rfl) (pw_or1 (pt_cmpR op_in_sign (pv 2) pe_str rfl))))
      (pss_cons (ps_expr (pe_meth (pv 0) T.cl m1 F1 hr b1 .nil pass0 (pa_cons (pv 2) pa_nil)))
      (pss_one ps_retN))
      pss_nil)
    (pss_cons (ps_if (PW.pt (pw_or (pt_cmpR op_notIn_sign (pv 2) pe_str rfl) (pw_or1 (pt_not (pt_truth (pe_fld (pv 0) rfl) (by intro _; rfl))))))
      (pss_one (L2N.ps_raise rfl (L2N.takes_of rfl rfl rfl rfl) (L2N.pmk_xm X.t hr X.mT X.sup (pa_cons (pv 1) pa_nil))))
      pss_nil)
    (pss_one (ps_if (pt_cmpR op_eq (pv 2) pe_str (nomark _))
      (pss_one (ps_expr (pe_methR (pv 0) T.cl m3 F3 hr1 pass0 (pa_cons pe_str (pa_cons (pe_bm0 PySem.F.plainAttrs_list PySem.F.slot_list_pop PySem.F.type_list_pop mt_pop (pe_fld (pv 0) rfl)) pa_nil)))))
      (pss_one (ps_if (pt_cmpR op_eq (pv 2) pe_str (nomark _))
        (pss_one (ps_expr (pe_meth (pv 0) T.cl m4 F4 hr4 b4 .nil (L2N.passes_call (L2N.takes_of rfl rfl rfl rfl) (fun _ _ _ _ h => h)) (pa_cons (pv 1) pa_nil))))
        (pss_one (ps_expr (pe_meth (pv 0) T.cl m2 F2 hr4 b2 .nil pass0 (pa_cons (pv 2) pa_nil)))))))))), ?_⟩
  obtain ⟨n1, n2, n3, n4⟩ := G.some_
  unfold RS.take at hc
  have beg : (ch ∈ al ∨ ch ∈ [46, 48, 49, 40, 126]) → ∀ (Q2 : V → Hp → Prop), (∀ t, r = some t → ∀ H', K4 p rl ol wl H H' → RdAt H' p dx rl ol wl C al t → Q2 .non H') → ∀ E2, spBegin C [.ref p, .str (S [ch])] H Q2 E2 := fun h Q2 q2 E2 => by
    rw [if_pos h] at hc
    cases hb : RS.begin1 al s ch with
    | none => rw [hb] at hc; cases hc
    | some t =>
      rw [hb] at hc
      cases hc
      exact ⟨p, dx, rl, ol, wl, al, s, t, B, ch, rfl, G, hB, hB8, h3, hb, q2 t rfl⟩
  refine ⟨_, rfl, _, rfl, p, C, dx, _, _, rfl, G.o, T.cl, T.nL, rf_letters _ _ _ _ _, ch, S al, rfl, rfl, _, rfl, ?_⟩
  refine ite2 (fun h1 => ?_) (fun h1 => ?_)
  · refine ite2 (fun _ => ?_) (fun z => absurd rfl z)
    exact ⟨_, rfl, p, dx, _, rfl, G.o, rf_no _ _ _ _ _ (by decide +kernel), _, rfl, beg (.inl (of_decide_eq_true h1)) _ q E0⟩
  have h1' : ch ∉ al := fun z => h1 (decide_eq_true z)
  refine ⟨_, rfl, ch, _, rfl, rfl, _, rfl, ?_⟩
  refine ite2 (fun h2 => ?_) (fun h2 => ?_)
  · exact ⟨_, rfl, p, dx, _, rfl, G.o, rf_no _ _ _ _ _ (by decide +kernel), _, rfl, beg (.inr ((mem_sg (by decide +kernel)).mp (of_decide_eq_true h2))) _ q E0⟩
  have h2' : ch ∉ [46, 48, 49, 40, 126] := fun z => h2 (decide_eq_true ((mem_sg (by decide +kernel)).mpr z))
  rw [if_neg (fun z => z.elim h1' h2')] at hc
  clear beg
  refine ⟨_, rfl, ch, _, rfl, rfl, _, rfl, ?_⟩
  refine ite2 (fun h5 => ?_) (fun h5 => ?_)
  · refine ite2 (fun _ => ?_) (fun z => absurd rfl z)
    rw [if_pos (.inl fun z => decF h5 ((mem_sg (by decide +kernel)).mpr z))] at hc
    cases hc
    exact ⟨_, rfl, _, rfl, fun d hd => (e0 rfl).go (K4.of (Same.refl H)) n1 n2 n3 n4 hd⟩
  have h5' : ch ∈ [42, 124, 38, 41] := (mem_sg (by decide +kernel)).mp (decT h5)
  refine ⟨_, rfl, p, C, dx, _, _, rfl, G.o, T.cl, T.nB, rf_ready _ _ _ _ _, _, rfl, ?_⟩
  refine ite2 (fun h6 => ?_) (fun h6 => ?_)
  · have h6' : s.ready = false := by
      cases hh : s.ready with
      | false => rfl
      | true => rw [hh] at h6; cases h6
    rw [if_pos (.inr h6')] at hc
    cases hc
    exact ⟨_, rfl, _, rfl, fun d hd => (e0 rfl).go (K4.of (Same.refl H)) n1 n2 n3 n4 hd⟩
  have h6' : ¬ (s.ready = false) := fun z => h6 (by rw [z]; rfl)
  rw [if_neg (fun z => z.elim (fun y => y h5') h6')] at hc
  refine ⟨_, rfl, rfl, _, rfl, ?_⟩
  refine ite2 (fun h7 => ?_) (fun h7 => ?_)
  · rw [if_pos (sg_t c42 h7)] at hc
    split at hc
    · cases hc
    rename_i l hl
    cases hc
    refine ⟨_, rfl, p, dx, _, rfl, G.o, rf_no _ _ _ _ _ (by decide +kernel), _, rfl, p, C, dx, _, _, rfl, G.o, T.cl, T.nO, rf_operands _ _ _ _ _, .inl ⟨rfl, _, SqL.of G.p⟩, ol, _, _, rfl, rfl, G.p, last_map RS.nV hl, ?_⟩
    obtain ⟨G2, k2⟩ := G.setO (xs := s.ops.dropLast) (vs := (s.ops.map RS.nV).dropLast) List.map_dropLast.symm
    exact ⟨p, dx, rl, ol, wl, al, s.popO, B, [.str "again", RS.nV l], rfl, G2, RS.popO_ok hB, by omega, by show 2 ≤ 1000; decide, fun H3 k3 G3 => q _ rfl _ (k2.trans k3) G3⟩
  rw [if_neg (sg_f c42 h7)] at hc
  refine ⟨_, rfl, rfl, _, rfl, ?_⟩
  refine ite2 (fun h8 => ?_) (fun h8 => ?_)
  · rw [if_pos (sg_t c41 h8)] at hc
    exact ⟨_, rfl, p, dx, _, rfl, G.o, rf_no _ _ _ _ _ (by decide +kernel), _, rfl, p, dx, rl, ol, wl, al, s, r, B, i, rfl, G, hB, by omega, hc, q, e0⟩
  rw [if_neg (sg_f c41 h8)] at hc
  cases hw : RS.waitS s ch with
  | none => rw [hw] at hc; cases hc
  | some t =>
    rw [hw] at hc
    cases hc
    exact ⟨_, rfl, p, dx, _, rfl, G.o, rf_no _ _ _ _ _ (by decide +kernel), _, rfl, p, dx, rl, ol, wl, al, s, t, B, ch, rfl, G, hB, by omega, hw, q t rfl⟩
end
end W8

set_option Elab.async false
set_option linter.all false
/-! the rows that the reader makes fit -/
namespace W8
open PySem L2
def RowOk (al : List Nat) (at_ : Nat) (r : Row) : Prop := (∃ c ∈ al, r = [.str "letter", .str (S [c])]) ∨ ∃ (kd : Str) (ps : List Nat), r = .str kd :: ps.map RS.nV ∧ ps.length ≤ 3 ∧ (∀ x ∈ ps, x < at_) ∧
  (kd = "or" ∨ (kd = "empty" ∧ ps.length = 0) ∨ (kd = "not" ∧ ps.length = 1) ∨ (kd = "again" ∧ ps.length = 1) ∨ (kd = "then" ∧ ps.length = 2))
namespace RS
structure Good (al : List Nat) (s : RS) : Prop where
  rows : ∀ i r, s.rows[i]? = some r → RowOk al i r
  ops : ∀ x ∈ s.ops, x < s.rows.length
  rdy : s.ready = true → s.rows ≠ []
variable {al : List Nat} {s t : RS}
theorem good_addR {r : Row} (h : Good al s) (hr : RowOk al s.rows.length r) : Good al (s.addR r) := by
  refine ⟨fun i r' e => ?_, fun x hx => ?_, fun hb => ?_⟩
  · replace e : (s.rows ++ [r])[i]? = some r' := e
    rw [List.getElem?_append] at e
    split at e
    · exact h.rows i r' e
    · rename_i hi
      have e2 : i - s.rows.length = 0 := by
        rcases Nat.eq_zero_or_pos (i - s.rows.length) with z | z
        · exact z
        · rw [List.getElem?_eq_none (by show 1 ≤ _; omega)] at e
          cases e
      rw [e2] at e
      cases e
      have : i = s.rows.length := by omega
      rw [this]
      exact hr
  · show x < (s.rows ++ [r]).length
    rw [List.length_append]
    have := h.ops x hx
    omega
  · show s.rows ++ [r] ≠ []
    simp
theorem good_put {r : Row} (h : Good al s) (hr : RowOk al s.rows.length r) : Good al (s.put r) := by
  have g := good_addR h hr
  refine ⟨g.rows, fun x hx => ?_, g.rdy⟩
  show x < (s.rows ++ [r]).length
  rw [List.length_append]
  rcases List.mem_append.mp (show x ∈ s.ops ++ [s.rows.length] from hx) with z | z
  · have := h.ops x z
    omega
  · rw [List.mem_singleton.mp z]
    exact Nat.lt_succ_self _
theorem good_popO (h : Good al s) : Good al s.popO := ⟨h.rows, fun x hx => h.ops x ((List.dropLast_sublist s.ops).subset hx), h.rdy⟩
theorem good_popW (h : Good al s) : Good al s.popW := ⟨h.rows, h.ops, h.rdy⟩
theorem good_addW {c : Nat} (h : Good al s) : Good al (s.addW c) := ⟨h.rows, h.ops, h.rdy⟩
theorem good_setF (h : Good al s) : Good al (s.setB false) := ⟨h.rows, h.ops, fun z => nomatch z⟩
theorem good_setT (h : Good al s) (hr : s.rows ≠ []) : Good al (s.setB true) := ⟨h.rows, h.ops, fun _ => hr⟩
theorem Good.last_lt (h : Good al s) {l : Nat} (e : s.ops.getLast? = some l) : l < s.rows.length := h.ops l (List.mem_of_getLast? e)
theorem row1 {kd : Str} {l n : Nat} (hk : kd = "not" ∨ kd = "again") (hl : l < n) : RowOk al n [.str kd, nV l] :=
  .inr ⟨kd, [l], rfl, by show 1 ≤ 3; decide, fun x hx => by rw [List.mem_singleton.mp hx]; exact hl, by
    rcases hk with e | e
    · exact .inr (.inr (.inl ⟨e, rfl⟩))
    · exact .inr (.inr (.inr (.inl ⟨e, rfl⟩)))⟩
theorem row2 {kd : Str} {l m n : Nat} (hk : kd = "or" ∨ kd = "then") (hl : l < n) (hm : m < n) : RowOk al n [.str kd, nV l, nV m] :=
  .inr ⟨kd, [l, m], rfl, by show 2 ≤ 3; decide, fun x hx => by
    rcases List.mem_cons.mp hx with e | e
    · rw [e]; exact hl
    · rw [List.mem_singleton.mp e]; exact hm, by
    rcases hk with e | e
    · exact .inl e
    · exact .inr (.inr (.inr (.inr ⟨e, rfl⟩)))⟩
theorem good_combine (h : Good al s) (e : combine s = some t) : Good al t := by
  unfold combine at e
  split at e
  · rename_i c l hc hl
    have hl' := h.last_lt hl
    split at e
    · cases e
      exact good_put (good_popO (good_popW h)) (row1 (.inl rfl) hl')
    · split at e
      · rename_i f hf
        have hf' : f < s.rows.length := (good_popO h).last_lt hf
        have hp := good_popO (good_popO (good_popW h))
        split at e
        · cases e
          exact good_put hp (row2 (.inr rfl) hf' hl')
        · split at e
          · cases e
            exact good_put hp (row2 (.inl rfl) hf' hl')
          · cases e
            have a1 := good_addR hp (r := [.str "not", nV f]) (row1 (.inl rfl) hf')
            have n1 : (s.popW.popO.popO.addR [.str "not", nV f]).rows.length = s.rows.length + 1 := by
              show (s.rows ++ [_]).length = _
              rw [List.length_append] <;> rfl
            have a2 := good_addR a1 (r := [.str "not", nV l]) (row1 (.inl rfl) (by rw [n1]; omega))
            have n2 : ((s.popW.popO.popO.addR [.str "not", nV f]).addR [.str "not", nV l]).rows.length = s.rows.length + 2 := by
              show ((s.rows ++ [_]) ++ [_]).length = _
              rw [List.length_append, List.length_append] <;> rfl
            have a3 := good_addR a2 (r := [.str "or", nV s.rows.length, nV (s.rows.length + 1)]) (row2 (.inl rfl) (by rw [n2]; omega) (by rw [n2]; omega))
            have n3 : (((s.popW.popO.popO.addR [.str "not", nV f]).addR [.str "not", nV l]).addR [.str "or", nV s.rows.length, nV (s.rows.length + 1)]).rows.length = s.rows.length + 3 := by
              show (((s.rows ++ [_]) ++ [_]) ++ [_]).length = _
              rw [List.length_append, List.length_append, List.length_append] <;> rfl
            exact good_put a3 (row1 (.inl rfl) (by rw [n3]; omega))
      · cases e
  · cases e
theorem good_down {b : Nat} : ∀ {n : Nat} {s t : RS}, Good al s → down b n s = some t → Good al t
  | 0, _, _, _, e => by cases e
  | n + 1, s, t, h, e => by
    unfold down at e
    split at e
    · cases e; exact h
    · split at e
      · cases e
      · split at e
        · split at e
          · cases e
          · rename_i u hu
            exact good_down (good_combine h hu) e
        · cases e; exact h
theorem good_wait {c : Nat} (h : Good al s) (e : waitS s c = some t) : Good al t := by
  unfold waitS at e
  split at e
  · cases e
  · split at e
    · cases e
    · rename_i u hu
      cases e
      exact good_setF (good_addW (good_down h hu))
theorem good_addL : ∀ (ls : List Nat) {s : RS}, Good al s → (∀ c ∈ ls, c ∈ al) → Good al (s.addL ls)
  | [], _, h, _ => h
  | l :: ls, s, h, hs => good_addL ls (good_addR h (.inl ⟨l, hs l (List.mem_cons_self), rfl⟩)) fun c hc => hs c (List.mem_cons_of_mem _ hc)
theorem addL_len : ∀ (ls : List Nat) (s : RS), (s.addL ls).rows.length = s.rows.length + ls.length
  | [], s => rfl
  | x :: ls, s => by
    show ((s.addR _).addL ls).rows.length = _
    rw [addL_len ls]
    show (s.rows ++ [_]).length + ls.length = s.rows.length + (ls.length + 1)
    rw [List.length_append]
    show s.rows.length + 1 + ls.length = _
    omega
theorem put_ne {r : Row} : (s.put r).rows ≠ [] := by
  show s.rows ++ [r] ≠ []
  simp
theorem good_begin2 {c : Nat} (h : Good al s) (h3 : al.length ≤ 3) (hc : c ∈ al ∨ c ∈ [46, 48, 49, 40, 126]) : Good al (begin2 al s c) := by
  unfold begin2
  split
  · exact good_addW h
  · rename_i n1
    split
    · refine good_setT (good_put (good_addL al h fun c hc => hc) (.inr ⟨"or", (List.range al.length).map (s.rows.length + ·), ?_, by rw [List.length_map, List.length_range]; exact h3, fun x hx => ?_, .inl rfl⟩)) put_ne
      · rw [List.map_map]
        rfl
      · obtain ⟨i, hi, rfl⟩ := List.mem_map.mp hx
        have := List.mem_range.mp hi
        rw [addL_len]
        omega
    · rename_i n2
      split
      · exact good_setT (good_put h (.inr ⟨"or", [], rfl, by decide, fun x hx => (by cases hx), .inl rfl⟩)) put_ne
      · rename_i n3
        split
        · exact good_setT (good_put h (.inr ⟨"empty", [], rfl, by decide, fun x hx => (by cases hx), .inr (.inl ⟨rfl, rfl⟩)⟩)) put_ne
        · rename_i n4
          refine good_setT (good_put h (.inl ⟨c, ?_, rfl⟩)) put_ne
          rcases hc with z | z
          · exact z
          · simp only [List.mem_cons, List.not_mem_nil, or_false] at z
            omega
theorem good_begin1 {c : Nat} (h : Good al s) (h3 : al.length ≤ 3) (hc : c ∈ al ∨ c ∈ [46, 48, 49, 40, 126]) (e : begin1 al s c = some t) : Good al t := by
  unfold begin1 at e
  split at e
  · split at e
    · cases e
    · rename_i u hu
      cases e
      exact good_begin2 (good_wait h hu) h3 hc
  · cases e
    exact good_begin2 h h3 hc
theorem good_take {c : Nat} (h : Good al s) (h3 : al.length ≤ 3) (e : take al s c = some (some t)) : Good al t := by
  unfold take at e
  split at e
  · rename_i hc
    cases hb : begin1 al s c with
    | none => rw [hb] at e; cases e
    | some u => rw [hb] at e; cases e; exact good_begin1 h h3 hc hb
  · split at e
    · cases e
    · split at e
      · split at e
        · cases e
        · rename_i l hl
          cases e
          exact good_put (good_popO h) (row1 (.inr rfl) (h.last_lt hl))
      · split at e
        · unfold close at e
          split at e
          · cases e
          · rename_i u hu
            split at e
            · cases e
            · cases e
              exact good_popW (good_down h hu)
        · cases hw : waitS s c with
          | none => rw [hw] at e; cases e
          | some u => rw [hw] at e; cases e; exact good_wait h hw
theorem good_init : Good al init := ⟨(fun i r e => by simp [init] at e), (fun x hx => by cases hx), (fun e => by cases e)⟩
theorem readL_mid : ∀ {xs ys : List Nat} {i : Nat} {s t : RS}, readL al xs i s = some (.inr t) → readL al (xs ++ ys) i s = readL al ys (i + xs.length) t
  | [], _, _, _, _, e => by cases e; rfl
  | x :: xs, ys, i, s, t, e => by
    unfold readL at e
    show readL al (x :: (xs ++ ys)) i s = _
    rw [readL]
    split at e
    · cases e
    · cases e
    · rename_i u hu
      show readL al (xs ++ ys) (i + 1) u = _
      rw [readL_mid e]
      show _ = readL al ys (i + (xs.length + 1)) t
      rw [show i + 1 + xs.length = i + (xs.length + 1) by omega]
end RS
end W8

set_option Elab.async false
set_option linter.all false
set_option maxRecDepth 100000
set_option maxHeartbeats 4000000
/-! list(text) -/
namespace L2
open PySem PySem.Spec PyProof.Rows
def sigL (z : Str) : List V := z.cps.toList.map fun c => V.str ⟨#[c]⟩
theorem call_listS {X : Cx} (hc : X.calm = true) : CallR X (.type "list") (fun xs H Q => ∃ z, xs = [V.str z] ∧ z.length ≤ sizeLine ∧ ∀ l, H l = none → Q (.ref l) (upd H l (.lst (sigL z)))) := by
  intro pins s σ H xs us Q I r h
  obtain ⟨z, rfl, hz, q⟩ := h
  obtain ⟨u, rfl, rx⟩ := vals1 r
  obtain ⟨t, rfl⟩ := rx
  refine call_list_str (I.ok.hd hc) z t (hn := hz) fun h' tk acc' c' kp e hacc => ?_
  have hlen : (sigL z).length = z.length := by
    unfold sigL
    rw [List.length_map, Array.length_toList]
    rfl
  have r' : Vals (sigL z) acc'.toList := by
    refine vals_of_at (by rw [hlen, Array.length_toList, hacc.1]; rfl) fun j x w h1 h2 => ?_
    obtain ⟨c, t', hcj, rfl⟩ := hacc.2 j w (by rw [← Array.getElem?_toList]; exact h2)
    unfold sigL at h1
    rw [List.getElem?_map, Array.getElem?_toList, hcj] at h1
    cases h1
    exact ⟨t', rfl⟩
  exact ⟨.ref s.heap.objs.size, _, I.laid (t' := tk) kp (Nat.le_refl _) (show ObjOk X.prog X.w _ h' _ (.lst (sigL z)) from ⟨by rw [hlen]; exact hz, acc'.toList, c', r', by rw [Array.toArray_toList]; exact e⟩), rfl, q _ (I.hok.fresh (Nat.le_refl _))⟩
end L2

set_option Elab.async false
set_option linter.all false
set_option maxRecDepth 100000
set_option maxHeartbeats 4000000
namespace W8
open PySem PySem.Spec PyProof.Rows L2 L2E
structure PtT (K : PySem.W.Frag) (w : World) (mg : Str → Option Value) (C D : Addr) : Prop where
  cl : Cls K C
  nL : NoAttr K C "letters"
  nR : NoAttr K C "rows"
  mr : ∃ u, Con K C "MOST_ROWS" (.int 16000) u
  mgC : mg "Pattern" = some (.ref C)
  mgP : mg "PARTS" = some (.ref D)
  kd : ∃ es n, KDict K w D es n
  k0 : KDct K w D "empty" (.int 0)
  k1 : KDct K w D "not" (.int 1)
  k2 : KDct K w D "again" (.int 1)
  k3 : KDct K w D "then" (.int 2)
  S : SameT mg
  en : mg "enumerate" = none
abbrev sFits : Stmt := top 34
theorem scFits : FnScope ["row", "at", "letters", "kind", "part"] ["row", "at", "letters"] (defScope sFits) := ⟨rfl, rfl, rfl, by decide +kernel, rfl, by decide +kernel, by decide +kernel⟩
def spFits : Sp := fun vs H Q _ => ∃ (t : Addr) (i : Nat) (al : List Nat) (row : Row), vs = [.ref t, .int (i : Int), .str (S al)] ∧ H t = some (.tup row) ∧ RowOk al i row ∧ al.length ≤ 3 ∧ ∀ H', Same H H' → Q (.bl true) H'
abbrev sPInit : Stmt := inClass (top 37) 1
theorem scPInit : FnScope ["self", "letters", "rows", "at", "row"] ["self", "letters", "rows"] (defScope sPInit) := ⟨rfl, rfl, rfl, by decide +kernel, rfl, by decide +kernel, by decide +kernel⟩
def ptf (l r : V) : List (Str × V) := [("letters", l), ("rows", r)]
theorem ptf_letters (l r : V) : (ptf l r).lookup ("letters" : Str) = some l := by rfl
theorem ptf_rows (l r : V) : (ptf l r).lookup ("rows" : Str) = some r := by rfl
/-- a pattern with these rows -/
structure PatAt (H : Hp) (p C : Addr) (al : List Nat) (rows : List Row) : Prop where
  ex : ∃ (dx rt : Addr) (ts : List Addr), H p = some (.ins C dx (ptf (.str (S al)) (.ref rt))) ∧ H rt = some (.tup (ts.map V.ref)) ∧ Paired (fun (t : Addr) (row : Row) => H t = some (.tup row)) ts rows
theorem PatAt.mono {H H' : Hp} {p C : Addr} {al : List Nat} {rows : List Row} (h : PatAt H p C al rows) (s : Same H H') : PatAt H' p C al rows := by
  obtain ⟨dx, rt, ts, a, b, c⟩ := h.ex
  exact ⟨dx, rt, ts, s _ _ a, s _ _ b, Paired.mapP c fun _ _ z => s _ _ z⟩
def spPInit (C : Addr) : Sp := fun vs H Q _ => ∃ (p dx rl : Addr) (al : List Nat) (rows : List Row), vs = [.ref p, .str (S al), .ref rl] ∧ H p = some (.ins C dx []) ∧ AlphOk al ∧ Rows H rl rows ∧ rows ≠ [] ∧ rows.length ≤ 16000 ∧ (∀ i r, rows[i]? = some r → RowOk al i r) ∧
  ∀ H', But p H H' → PatAt H' p C al rows → Q .non H'
theorem inV_sig {c : Nat} {al : List Nat} (h : c ∈ al) : inV (.str (S [c])) (sigL (S al)) = true := by
  unfold inV sigL
  rw [List.any_eq_true]
  refine ⟨.str (S [c]), List.mem_map.mpr ⟨c, h, rfl⟩, ?_⟩
  show ((S [c]) == (S [c])) = true
  exact beq_self_eq_true _
theorem flat_sig (al : List Nat) : (sigL (S al)).all flatV = true := by
  rw [List.all_eq_true]
  intro v hv
  unfold sigL at hv
  obtain ⟨c, _, rfl⟩ := List.mem_map.mp hv
  rfl
theorem cut1 (x : V) (xs : List V) : cutV (x :: xs) (some 1) none = xs := by
  unfold cutV
  have e1 : HT.sIx (x :: xs).length 0 (some 1) = 1 := by
    rw [show (1 : Int) = ((1 : Nat) : Int) from rfl, HT.sIx_nat, List.length_cons]
    omega
  rw [e1, HT.sIx_none, List.length_cons, Nat.add_sub_cancel]
  show xs.take xs.length = xs
  exact List.take_length
theorem at0 (x : V) (xs : List V) : atI (x :: xs) 0 = some x := by
  unfold atI ixN
  simp
section
variable {P : Program} {w : World} {K : PySem.W.Frag} {mg : Str → Option Value} {base : Heap}
theorem ok_fits {f C D : Addr} {fd : FuncData} (F : Fun K "fits" "fits" sFits f fd) (T : PtT K w mg C D) : FnOk P w K mg base CX0 1 f fd ["row", "at", "letters"] spFits := by
  refine F.ok scFits (fun vs H Q E h => ?_) (fun cdv A outer sh H vs Q E hr h => ?_)
  · obtain ⟨t, i, al, row, rfl, _⟩ := h
    rfl
  obtain ⟨t, i, al, row, rfl, ht, hrow, hal, q⟩ := h
  obtain ⟨es, n, kd⟩ := T.kd
  have tail : ∃ tb, PSs (cxOf CX0 P w K mg base ["row", "at", "letters", "kind", "part"] "fits" (defScope sFits) f cdv A outer sh H E).nox ((defBody sFits).drop 3) tb ∧ ∀ (kd' : Str) (ps : List Nat), row = .str kd' :: ps.map RS.nV → ps.length ≤ 3 → (∀ x ∈ ps, x < i) →
      tb { nx := fun _ H' => Q .non H', rt := Q } [some (.ref t), some (.int (i : Int)), some (.str (S al)), some (.str kd'), none] H := by
    refine ⟨_, (pss_cons (ps_for PassesOwn.never rfl (pi_tup (pe_slice sl_tupA (pv 0) (po_some pe_int) po_none)) (pg_name (i := 4) scFits.nd rfl (Or.inl rfl))
        (pss_one (ps_if (PW.pt (pw_or (pt_not (pt_val (pe_callB call_isi (by rfl) T.S.isinstance (by decide +kernel) (pa_cons (pv 4) (pa_cons (pe_bltn (v := .ty "int") (by rfl) T.S.int (by decide +kernel) rfl) pa_nil))))) (pw_or1 (pt_not (pt_chain op_le op_lt pe_int (pv 4) (pv 1))))))
          (pss_one (ps_ret pe_bl))
          pss_nil)))
      (pss_one (ps_ret pe_bl))), fun kd' ps er hp3 hlt => ?_⟩
    subst er
    have len3 : (V.str kd' :: ps.map RS.nV).length = ps.length + 1 := by rw [List.length_cons, List.length_map]
    have ne1 : ¬ (HT.sIx (V.str kd' :: ps.map RS.nV).length 0 (some 1) = 0 ∧ HT.sIx (V.str kd' :: ps.map RS.nV).length (V.str kd' :: ps.map RS.nV).length none = (V.str kd' :: ps.map RS.nV).length) := by
      rintro ⟨z, _⟩
      rw [show (1 : Int) = ((1 : Nat) : Int) from rfl, HT.sIx_nat, len3] at z
      omega
    refine ⟨_, rfl, _, rfl, t, _, rfl, SqT.of ht, fun z => absurd z ne1, fun _ r hr => ?_⟩
    rw [cut1]
    have s1 := same_new hr (.tup (ps.map RS.nV))
    have hr1 : upd H r (.tup (ps.map RS.nV)) r = some (.tup (ps.map RS.nV)) := upd_same
    generalize upd H r (.tup (ps.map RS.nV)) = H1 at *
    refine ⟨r, rfl, ⟨_, SqT.of hr1⟩, ?_⟩
    refine L2.for_it (L2.walk_tup (xs := ps.map RS.nV)) (fun j σ H' => ∃ x : Option V, σ = [some (.ref t), some (.int (i : Int)), some (.str (S al)), some (.str kd'), x] ∧ H' = H1) ⟨none, rfl, rfl⟩ (fun _ _ _ _ ⟨_, _, e⟩ => by rw [e]; exact SqT.of hr1) ?_ ?_
    · rintro j x σ H2 H3 hj ⟨x1, rfl, rfl⟩ ⟨rfl, hx⟩
      rw [List.getElem?_map] at hx
      cases hp : ps[j]? with
      | none => rw [hp] at hx; cases hx
      | some y =>
        rw [hp] at hx
        cases hx
        have hy := hlt y (List.mem_of_getElem? hp)
        refine ⟨_, rfl, _, _, _, _, _, rfl, .ty _, dp_ty (.int (y : Int)), kit_int (.int (y : Int)), _, rfl, ?_⟩
        refine ite2 (fun z => (by cases z)) (fun _ => ?_)
        refine ⟨_, rfl, _, _, rfl, rfl, _, rfl, ?_⟩
        refine ite2 (fun _ => ?_) (fun z => absurd (decide_eq_true (by omega)) z)
        refine ⟨_, rfl, _, _, rfl, rfl, _, rfl, ?_⟩
        refine ite2 (fun z => ?_) (fun _ => ⟨_, rfl, rfl⟩)
        rw [decide_eq_true (show ((y : Int) < (i : Int)) by omega)] at z
        cases z
    · rintro σ H2 ⟨x1, rfl, rfl⟩
      exact q _ s1
  obtain ⟨tb, htb, hk2⟩ := tail
  refine ⟨_, (pss_cons (ps_set (i := 3) scFits.nd rfl (Or.inl rfl) (pixT (pv 0) pe_int))
    (pss_cons (ps_if (pt_cmpR op_eq (pv 3) pe_str (nomark _))
      (pss_one (ps_ret (pe_and (pe_cmpR op_eq (pB1 call_len_seq T.S.len (pv 0)) pe_int (nomark _)) (pe_one (pe_cmpR op_in_seq (pixT (pv 0) pe_int) (pT1 (call_listS rfl) T.S.list (pv 2)) rfl)))))
      pss_nil)
    (pss_cons (ps_if (PW.pt (pw_and (pt_cmpR op_ne (pv 3) pe_str (nomark _)) (pw_and1 (PW.pt (pw_or (pt_cmpR (op_notIn_kd kd) (pv 3) (pe_glob (v := .ref D) rfl T.mgP rfl) rfl) (pw_or1 (pt_cmpR op_ne (pB1 call_len_seq T.S.len (pv 0)) (pe_op op_add pe_int (pe_ix ix_kdict (pe_glob (v := .ref D) rfl T.mgP rfl) (pv 3) (fun _ _ => rfl))) (nomark _))))))))
      (pss_one (ps_ret pe_bl))
      pss_nil)
    htb))), ?_⟩
  rcases hrow with ⟨c, hc, rfl⟩ | ⟨kd', ps, rfl, hp3, hlt, hk⟩
  · refine ⟨_, rfl, t, _, _, _, rfl, rfl, SqT.of ht, rfl, ?_⟩
    refine ⟨_, rfl, rfl, _, rfl, ?_⟩
    refine ite2 (fun _ => ?_) (fun z => absurd (decide_eq_true rfl) z)
    refine ⟨_, rfl, t, _, rfl, .inr (SqT.of ht), rfl, _, rfl, ?_⟩
    refine ite2 (fun _ => ?_) (fun z => absurd (decide_eq_true rfl) z)
    refine ⟨_, rfl, t, _, _, _, rfl, rfl, SqT.of ht, rfl, _, rfl, _, rfl, by rw [S_len]; exact sz (by omega), fun l hl => ?_⟩
    refine ⟨l, _, rfl, .inl (SqL.of upd_same), rfl, flat_sig al, ?_⟩
    rw [show (if false = true then !inV (V.str (S [c])) (sigL (S al)) else inV (V.str (S [c])) (sigL (S al))) = true from inV_sig hc]
    exact q _ (same_new hl _)
  · refine ⟨_, rfl, t, _, _, _, rfl, rfl, SqT.of ht, at0 _ _, ?_⟩
    have len3 : (V.str kd' :: ps.map RS.nV).length = ps.length + 1 := by rw [List.length_cons, List.length_map]
    have nl : kd' ≠ ("letter" : Str) := by
      rcases hk with rfl | ⟨rfl, _⟩ | ⟨rfl, _⟩ | ⟨rfl, _⟩ | ⟨rfl, _⟩ <;> decide +kernel
    refine ⟨_, rfl, rfl, _, rfl, ?_⟩
    refine ite2 (fun z => absurd (by injection of_decide_eq_true z) nl) (fun _ => ?_)
    have fin := hk2 kd' ps rfl hp3 hlt
    refine ⟨_, rfl, rfl, _, rfl, ?_⟩
    refine ite2 (fun e1 => ?_) (fun e1 => ?_)
    · have hno : kd' ≠ ("or" : Str) := fun z => by rw [z] at e1; simp at e1
      obtain ⟨m, km, hm⟩ : ∃ m : Nat, KDct K w D kd' (.int (m : Int)) ∧ ps.length = m := by
        rcases hk with e | ⟨rfl, h⟩ | ⟨rfl, h⟩ | ⟨rfl, h⟩ | ⟨rfl, h⟩
        · exact absurd e hno
        · exact ⟨0, T.k0, h⟩
        · exact ⟨1, T.k1, h⟩
        · exact ⟨1, T.k2, h⟩
        · exact ⟨2, T.k3, h⟩
      obtain ⟨es', n', u, hl', hk', hn', hu'⟩ := km
      refine ⟨_, rfl, kd', _, rfl, rfl, hn', _, rfl, ?_⟩
      refine ite2 (fun z => (by cases z)) (fun _ => ?_)
      refine ⟨_, rfl, t, _, rfl, .inr (SqT.of ht), _, rfl, D, _, _, rfl, rfl, ⟨es', n', u, hl', hk', hn', hu'⟩, _, _, rfl, rfl, rfl, _, rfl, ?_⟩
      refine ite2 (fun z => ?_) (fun _ => fin)
      exfalso
      rw [len3, hm] at z
      have e9 : V.int (((m + 1 : Nat)) : Int) = V.int (1 + (m : Int)) := congrArg V.int (by omega)
      rw [e9] at z
      simp at z
    · exact fin
end
end W8

set_option Elab.async false
set_option linter.all false
set_option maxRecDepth 100000
set_option maxHeartbeats 4000000
namespace W8
open PySem PySem.Spec PyProof.Rows L2 L2E
theorem But.same0 {a : Addr} {H H' : Hp} (s : Same H H') : But a H H' := fun b o _ e => s b o e
section
variable {P : Program} {w : World} {K : PySem.W.Frag} {mg : Str → Option Value} {base : Heap}
theorem ok_pinit {f C D : Addr} {fd : FuncData} (F : Fun K "__init__" "Pattern.__init__" sPInit f fd) (T : PtT K w mg C D) (ccheck_letters : Cal P w K mg base "check_letters" 1 ["letters"] spCheckL) (cfits : Cal P w K mg base "fits" 1 ["row", "at", "letters"] spFits) : FnOk P w K mg base CX0 2 f fd ["self", "letters", "rows"] (spPInit C) := by
  refine F.ok scPInit (fun vs H Q E h => ?_) (fun cdv A outer s H vs Q E hr h => ?_)
  · obtain ⟨p, dx, rl, al, rows, rfl, _⟩ := h
    rfl
  obtain ⟨p, dx, rl, al, rows, rfl, hp, hA, ⟨ts, h1, h2⟩, hne, hsz, hok, q⟩ := h
  obtain ⟨uM, tM⟩ := T.mr
  have hl : ts.length = rows.length := Paired.length h2
  refine ⟨_, (pss_cons (ps_fld (pv 0) (pcall ccheck_letters hr (pa_cons (pv 1) pa_nil)) rfl)
    (pss_cons (ps_if (pt_cmpR op_gt (pB1 call_len_seq T.S.len (pv 2)) (pe_con (pv 0) rfl) (nomark _))
      (pss_one ps_never)
      pss_nil)
    (pss_cons (ps_if (pt_cmpR op_eq (pB1 call_len_seq T.S.len (pv 2)) pe_int (nomark _))
      (pss_one ps_never)
      pss_nil)
    (pss_cons (ps_for PassesOwn.never rfl (pi_enum (by rfl) T.en (pa_cons (pv 2) pa_nil)) (pg_tup (by rfl) (pgs_cons (pg_name (i := 3) scPInit.nd rfl (Or.inl rfl)) (pgs_cons (pg_name (i := 4) scPInit.nd rfl (Or.inl rfl)) pgs_nil)))
      (pss_one (ps_if (pt_not (pt_truth (pcall cfits hr (pa_cons (pv 4) (pa_cons (pv 3) (pa_cons (pv 1) pa_nil)))) (by intro _; rfl)))
        (pss_one ps_never)
        pss_nil)))
    (pss_one (ps_fld (pv 0) (pT1 call_tuple_of T.S.tuple (pe_lc (own := [("row", 4)]) (g := gName 4) (tt := tYes) rfl scPInit.nd (pi_list (pv 2)) (blkOk_by (own := [("row", 4)]) (N := ["self", "letters", "rows", "at", "row"]) (sc := defScope sPInit) (by decide +kernel)) (fun _ _ _ _ _ => (pg_name (i := 4) scPInit.nd rfl (Or.inl rfl))) (fun _ _ _ _ _ => pts_nil) (fun _ _ _ _ _ => (pT1 (T := "tuple") (r := rTupOf K) cr_tupOf T.S.tuple (pv 4))))) rfl)))))), ?_⟩
  refine ⟨_, rfl, al, rfl, hA, _, rfl, p, C, dx, _, rfl, hp, T.cl, T.nL, (by show 0 < 1000; decide), ?_⟩
  have b0 : But p H (upd H p (.ins C dx (putF "letters" (.str (S al)) []))) := But.upd
  have hp0 : upd H p (.ins C dx (putF "letters" (.str (S al)) [])) p = some (.ins C dx (putF "letters" (.str (S al)) [])) := upd_same
  generalize upd H p (.ins C dx (putF "letters" (.str (S al)) [])) = H0 at *
  have h1 : H0 rl = some (.lst (ts.map V.ref)) := b0 _ _ (ne_of h1 hp (fun z => nomatch z)) h1
  have h2 : Paired (fun (t : Addr) (row : Row) => H0 t = some (.tup row)) ts rows := Paired.mapP h2 fun _ _ z => b0 _ _ (ne_of z hp (fun z => nomatch z)) z
  have hlen : ((ts.map V.ref).length : Int) = (rows.length : Int) := by rw [List.length_map, hl]
  refine ⟨_, rfl, rl, _, rfl, .inl (SqL.of h1), ?_⟩
  rw [hlen]
  refine ⟨_, rfl, p, C, dx, _, _, _, rfl, hp0, T.cl, tM, (by rfl), _, _, rfl, rfl, _, rfl, ?_⟩
  refine ite2 (fun z => ?_) (fun _ => ?_)
  · have := of_decide_eq_true z
    omega
  refine ⟨_, rfl, rl, _, rfl, .inl (SqL.of h1), ?_⟩
  rw [hlen]
  refine ⟨rfl, _, rfl, ?_⟩
  refine ite2 (fun z => ?_) (fun _ => ?_)
  · have e9 : V.int ((rows.length : Nat) : Int) = V.int 0 := of_decide_eq_true z
    have e8 : (rows.length : Int) = 0 := by injection e9
    exact absurd (List.length_eq_zero_iff.mp (by omega)) hne
  refine ⟨_, rfl, rl, _, rfl, SqL.of h1, ?_⟩
  refine L2.for_it (L2.walk_enum (xs := ts.map V.ref)) (fun i σ H' => ∃ (x y : Option V), σ = [some (.ref p), some (.str (S al)), some (.ref rl), x, y] ∧ Same H0 H') ⟨none, none, rfl, Same.refl H0⟩ (fun _ _ _ _ ⟨_, _, _, s4⟩ => SqL.of (s4 _ _ h1)) ?_ ?_
  · rintro i x σ H1 H2 hi ⟨x1, y1, rfl, s1⟩ ⟨tq, vx, vy, rfl, htq, rfl, ex, ey⟩
    cases ex
    replace ey : (ts.map V.ref)[i]? = some vy := ey
    rw [List.getElem?_map] at ey
    cases htj : ts[i]? with
    | none => rw [htj] at ey; cases ey
    | some tj =>
      rw [htj] at ey
      cases ey
      obtain ⟨row, hrow, hat⟩ := L2.paired_get h2 htj
      have s2 := s1.trans (same_new htq (.tup [.int (i : Int), .ref tj]))
      refine ⟨tq, _, rfl, SqT.of upd_same, rfl, _, _, rfl, _, _, rfl, rfl, ?_⟩
      refine ⟨_, rfl, _, rfl, _, rfl, tj, i, al, row, rfl, s2 _ _ hat, hok i row hrow, hA.n3, fun H3 s3 => ?_⟩
      refine ⟨_, rfl, ?_⟩
      refine ite2 (fun z => (by cases z)) (fun _ => ?_)
      exact ⟨_, _, rfl, s2.trans s3⟩
  rintro σ H1 ⟨x1, y1, rfl, s1⟩
  have h1' := s1 _ _ h1
  have h2' : Paired (fun (t : Addr) (row : Row) => H1 t = some (.tup row)) ts rows := Paired.mapP h2 fun _ _ z => s1 _ _ z
  refine ⟨_, rfl, rl, rfl, ⟨_, SqL.of h1'⟩, fun L hL => ?_⟩
  refine L2.lc_it (L2.walk_list (xs := ts.map V.ref)) (fun i H' => Same H1 H' ∧ H' L = some (.lst ((ts.take i).map V.ref))) ⟨same_new hL _, upd_same⟩ (fun _ _ _ ⟨s4, _⟩ => SqL.of (s4 _ _ h1')) ?_ ?_
  · rintro i x H2 H3 hi ⟨s2, hL2⟩ ⟨rfl, hx⟩
    rw [List.getElem?_map] at hx
    cases htj : ts[i]? with
    | none => rw [htj] at hx; cases hx
    | some tj =>
      rw [htj] at hx
      cases hx
      obtain ⟨row, hrow, hat⟩ := L2.paired_get h2' htj
      refine ⟨rfl, _, rfl, tj, _, rfl, .inr ⟨SqT.of (s2 _ _ hat), _, hL2, small_lt (by rw [List.length_map, List.length_take]; omega), same_upd s2 hL, ?_⟩⟩
      rw [upd_same, List.take_add_one, htj, List.map_append]
      rfl
  rintro H2 ⟨s2, hL2⟩
  rw [List.length_map, List.take_length] at hL2
  refine ⟨L, _, rfl, .inl ⟨SqL.of hL2, fun rt hrt => ?_⟩⟩
  have s3 := s2.trans (same_new hrt (.tup (ts.map V.ref)))
  have s4 := s1.trans s3
  refine ⟨_, rfl, p, C, dx, _, rfl, s4 _ _ hp0, T.cl, T.nR, (by show 1 < 1000; decide), ?_⟩
  have nrt : rt ≠ p := fun e => by rw [e, s2 _ _ (s1 _ _ hp0)] at hrt; cases hrt
  refine q _ (b0.trans ((But.same0 s4).trans But.upd)) ⟨dx, rt, ts, ?_, ?_, ?_⟩
  · rw [upd_same]
    rfl
  · rw [upd_ne nrt, upd_same]
  · refine Paired.mapP h2 fun t row z => ?_
    rw [upd_ne (ne_of z hp0 (fun z => nomatch z))]
    exact s4 _ _ z
end
end W8

set_option Elab.async false
set_option linter.all false
set_option maxRecDepth 100000
set_option maxHeartbeats 4000000
namespace W8
open PySem PySem.Spec PyProof.Rows L2 L2E
/-- a class that is made by its __init__ -/
structure MkCal (P : Program) (w : World) (K : PySem.W.Frag) (mg : Str → Option Value) (base : Heap) (C : Addr) (k : Nat) (ps : List Str) (sp : Sp) : Prop where
  ex : ∃ (f : Addr) (fd : FuncData), FnOk P w K mg base CX0 k f fd ps sp ∧ Mk K C f ∧ Binds K fd ps []
abbrev sRead : Stmt := top 45
theorem scRead : FnScope ["text", "letters", "reader", "index", "char"] ["text", "letters"] (defScope sRead) := ⟨rfl, rfl, rfl, by decide +kernel, rfl, by decide +kernel, by decide +kernel⟩
def spRead (c : Nat → Addr) (CP : Addr) : Sp := fun vs H Q E => ∃ (tx al : List Nat) (r : RR), vs = [.str (S tx), .str (S al)] ∧ AlphOk al ∧ tx.length ≤ 1000 ∧ readP al tx = some r ∧
  (∀ rows, r = .rows rows → ∀ p H', Same H H' → H p = none → PatAt H' p CP al rows → Q (.ref p) H') ∧ (∀ i, r = .text i → ErrF E (c 11) "index" (.int (i : Int)) H) ∧ (r = .long → ErrF E (c 15) "limit" (.int 200) H)
theorem K4.same {p rl ol wl : Addr} {H0 H H' : Hp} (k : K4 p rl ol wl H H') (s : Same H0 H) (n1 : H0 p = none) (n2 : H0 rl = none) (n3 : H0 ol = none) (n4 : H0 wl = none) : Same H0 H' := fun b o e => by
  refine k b o (fun z => ?_) (fun z => ?_) (fun z => ?_) (fun z => ?_) (s b o e) <;> rw [z] at e
  · rw [n1] at e; cases e
  · rw [n2] at e; cases e
  · rw [n3] at e; cases e
  · rw [n4] at e; cases e
theorem combine_ready {s t : RS} (e : RS.combine s = some t) : t.ready = s.ready := by
  unfold RS.combine at e
  split at e
  · split at e
    · cases e; rfl
    · split at e
      · split at e
        · cases e; rfl
        · split at e <;> (cases e; rfl)
      · cases e
  · cases e
theorem down_ready {b : Nat} : ∀ {n : Nat} {s t : RS}, RS.down b n s = some t → t.ready = s.ready
  | 0, _, _, e => by cases e
  | n + 1, s, t, e => by
    unfold RS.down at e
    split at e
    · cases e; rfl
    · split at e
      · cases e
      · split at e
        · split at e
          · cases e
          · rename_i u hu
            exact (down_ready e).trans (combine_ready hu)
        · cases e; rfl
section
variable {P : Program} {w : World} {K : PySem.W.Frag} {mg : Str → Option Value} {base : Heap} {c : Nat → Addr} {fT fN fL : Addr}
theorem ok_read {f C D CP DP : Addr} {fd : FuncData} {t1 : Tok} (F : Fun K "read_pattern" "read_pattern" sRead f fd) (T : RdT K w mg C D) (X : BkE P K mg c fT fN fL) (TP : PtT K w mg CP DP) (gM : mg "MOST_TEXT" = some (.int 200 t1)) (ccheck_letters : Cal P w K mg base "check_letters" 1 ["letters"] spCheckL)
    (mr : MkCal P w K mg base C 1 ["self", "letters"] (spRInit C)) (mp : MkCal P w K mg base CP 2 ["self", "letters", "rows"] (spPInit CP)) (cd : MCal P w K mg base C "combine_down_to" 3 ["self", "binding"] (spDown C)) (ct : MCalX P w K mg base C "take" 6 ["self", "index", "char"] (spTake c C)) :
    FnOk P w K mg base (L2N.CX P w) 7 f fd ["text", "letters"] (spRead c CP) := by
  refine okN F scRead (fun vs H Q E h => ?_) (fun cdv A outer s H vs Q E hr h => ?_)
  · obtain ⟨tx, al, r, rfl, _⟩ := h
    rfl
  obtain ⟨tx, al, r, rfl, hA, htx, hrd, q, eT, eL⟩ := h
  obtain ⟨f1, fd1, F1, M1, b1⟩ := mr.ex
  obtain ⟨f2, fd2, F2, M2, b2⟩ := mp.ex
  obtain ⟨f3, fd3, F3, m3, b3⟩ := cd.ex
  obtain ⟨f4, fd4, F4, m4, b4⟩ := ct.ex
  refine ⟨_, (pss_cons (ps_expr (pcall ccheck_letters hr (pa_cons (pv 1) pa_nil)))
    (pss_cons (ps_if (pt_cmpR op_gt (pB1 call_len_str T.len (pv 0)) (pe_glob (v := .int 200) rfl gM ⟨_, rfl⟩) (nomark _))
      (pss_one (L2N.ps_raise rfl (L2N.takes_of rfl rfl rfl rfl) (L2N.pmk_xm X.l hr X.mL X.sup (pa_cons (pe_glob (v := .int 200) rfl gM ⟨_, rfl⟩) pa_nil))))
      pss_nil)
    (pss_cons (ps_set (i := 2) scRead.nd rfl (Or.inl rfl) (pe_make M1 F1 (hr.mono (by decide)) (by rfl) T.mgC b1 .nil pass0 (pa_cons (pv 1) pa_nil)))
    (pss_cons (ps_for PassesOwn.leaving rfl (pi_enumS (by rfl) TP.en (pa_cons (pv 0) pa_nil)) (pg_tup (by rfl) (pgs_cons (pg_name (i := 3) scRead.nd rfl (Or.inl rfl)) (pgs_cons (pg_name (i := 4) scRead.nd rfl (Or.inl rfl)) pgs_nil)))
      (pss_one (ps_expr (pe_meth (pv 2) T.cl m4 F4 hr b4 .nil (L2N.passes_call (L2N.takes_of rfl rfl rfl rfl) (fun _ _ _ _ h => h)) (pa_cons (pv 3) (pa_cons (pv 4) pa_nil))))))
    (pss_cons (ps_if (pt_not (pt_truth (pe_fld (pv 2) rfl) (by intro _; rfl)))
      (pss_one (L2N.ps_raise rfl (L2N.takes_of rfl rfl rfl rfl) (L2N.pmk_xm X.t hr X.mT X.sup (pa_cons (pB1 call_len_str T.len (pv 0)) pa_nil))))
      pss_nil)
    (pss_cons (ps_expr (pe_meth (pv 2) T.cl m3 F3 (hr.mono (by decide)) b3 .nil pass0 (pa_cons pe_int pa_nil)))
    (pss_cons (ps_if (pt_truth (pe_fld (pv 2) rfl) (by intro _; rfl))
      (pss_one (L2N.ps_raise rfl (L2N.takes_of rfl rfl rfl rfl) (L2N.pmk_xm X.t hr X.mT X.sup (pa_cons (pB1 call_len_str T.len (pv 0)) pa_nil))))
      pss_nil)
    (pss_one (ps_ret (pe_make M2 F2 (hr.mono (by decide)) (by rfl) TP.mgC b2 .nil pass0 (pa_cons (pv 1) (pa_cons (pe_fld (pv 2) rfl) pa_nil)))))))))))), ?_⟩
  unfold readP at hrd
  have h3 := hA.n3
  refine ⟨_, rfl, al, rfl, hA, _, rfl, _, rfl, by rw [S_len]; exact sz (by omega), _, _, rfl, rfl, _, rfl, ?_⟩
  rw [S_len]
  refine ite2 (fun e => ?_) (fun e => ?_)
  · have := of_decide_eq_true e
    rw [if_pos (by omega)] at hrd
    cases hrd
    exact ⟨_, rfl, fun d hd => (eL rfl).go (Same.refl H) hd⟩
  have h200 : tx.length ≤ 200 := by
    have : ¬ ((200 : Int) < (tx.length : Int)) := fun z => e (decide_eq_true z)
    omega
  rw [if_neg (by omega)] at hrd
  generalize hR : RS.readL al tx 0 RS.init = R at hrd
  refine ⟨_, rfl, fun p dx hp hdx hne => ?_⟩
  have sb : Same H (upd (upd H dx (.own p)) p (.ins C dx [])) := (same_new hdx (.own p)).trans (same_new (by rw [upd_ne (Ne.symm hne)]; exact hp) _)
  refine ⟨p, dx, al, rfl, upd_same, fun H1 rl ol wl bt G nrl nol nwl => ⟨rfl, ?_⟩⟩
  have nrl : H rl = none := sb.free nrl
  have nol : H ol = none := sb.free nol
  have nwl : H wl = none := sb.free nwl
  have s1 : Same H H1 := fun b o e => bt b o (fun z => by rw [z, hp] at e; cases e) (sb b o e)
  clear bt sb
  refine ⟨_, rfl, _, rfl, ?_⟩
  refine L2.for_it (walk_enumS (z := S tx)) (fun i σ H' => ∃ (x y : Option V) (s' : RS), σ = [some (.str (S tx)), some (.str (S al)), some (.ref p), x, y] ∧ Same H H' ∧ RdAt H' p dx rl ol wl C al s' ∧ RS.Good al s' ∧ RS.Ok s' (11 * i) ∧ RS.readL al (tx.drop i) i s' = R)
    ⟨none, none, RS.init, rfl, s1, G, RS.good_init, ⟨Nat.le_refl _, Nat.le_refl _⟩, hR⟩ (fun _ _ _ _ _ => trivial) ?_ ?_
  · rintro i x σ H2 H3 hi ⟨x1, y1, s', rfl, s2, G2, g2, o2, er⟩ ⟨t, ch, rfl, hT, rfl, hc⟩
    have hi' : i < tx.length := by
      have : (S tx).cps.size = tx.length := by show tx.toArray.size = _; simp
      omega
    have hc' : tx[i]? = some ch := by
      rw [← hc]
      show tx[i]? = tx.toArray[i]?
      simp
    have hdr : tx.drop i = ch :: tx.drop (i + 1) := by
      obtain ⟨h1, h2⟩ := List.getElem?_eq_some_iff.mp hc'
      rw [List.drop_eq_getElem_cons h1, h2]
    have s3 := same_new hT (.tup [.int (i : Int), .str ⟨#[ch]⟩])
    have G3 := G2.same s3
    rw [hdr] at er
    unfold RS.readL at er
    refine ⟨t, _, rfl, SqT.of upd_same, rfl, _, _, rfl, _, _, rfl, rfl, ?_⟩
    cases htk : RS.take al s' ch with
    | none =>
      rw [htk] at er
      rw [← er] at hrd
      cases hrd
    | some r2 =>
      rw [htk] at er
      refine ⟨_, rfl, p, dx, _, rfl, G3.o, rf_no _ _ _ _ _ (by decide +kernel), _, rfl, _, rfl, p, dx, rl, ol, wl, al, s', r2, 11 * i, i, ch, rfl, G3, o2, by omega, h3, htk, fun u hu H4 k4 G4 => ?_, fun hu => ?_⟩
      · subst hu
        have s4 := k4.same (s2.trans s3) hp nrl nol nwl
        refine ⟨_, _, u, rfl, s4, G4, RS.good_take g2 h3 htk, (RS.take_ok o2 htk).le (by omega), er⟩
      · subst hu
        rw [← er] at hrd
        cases hrd
        exact fun d H' k' n' e' => eT i rfl d H' (k'.same (s2.trans s3) hp nrl nol nwl) ((s2.trans s3).free n') e'
  rintro σ H2 ⟨x1, y1, s', rfl, s2, G2, g2, o2, er⟩
  have hsz : (S tx).cps.size = tx.length := by show tx.toArray.size = _; simp
  rw [hsz] at er o2
  rw [List.drop_length] at er
  rw [← er] at hrd
  unfold RS.readL at hrd
  replace hrd : (if s'.ready = false then some (RR.text tx.length) else match RS.down 1 (s'.wait.length + 1) s' with
      | none => none
      | some t => if t.wait = [] then some (.rows t.rows) else some (.text tx.length)) = some r := hrd
  refine ⟨_, rfl, p, C, dx, _, _, rfl, G2.o, T.cl, T.nB, rf_ready _ _ _ _ _, _, rfl, ?_⟩
  refine ite2 (fun h6 => ?_) (fun h6 => ?_)
  · have h6' : s'.ready = false := by
      cases hh : s'.ready with
      | false => rfl
      | true => rw [hh] at h6; cases h6
    rw [if_pos h6'] at hrd
    cases hrd
    refine ⟨_, rfl, _, rfl, by rw [S_len]; exact sz (by omega), _, rfl, fun d hd => ?_⟩
    rw [S_len]
    exact (eT _ rfl).go s2 hd
  have h6' : ¬ (s'.ready = false) := fun z => h6 (by rw [z]; rfl)
  rw [if_neg h6'] at hrd
  cases hdn : RS.down 1 (s'.wait.length + 1) s' with
  | none => rw [hdn] at hrd; cases hrd
  | some u =>
    rw [hdn] at hrd
    replace hrd : (if u.wait = [] then some (RR.rows u.rows) else some (.text tx.length)) = some r := hrd
    refine ⟨_, rfl, p, dx, _, rfl, G2.o, rf_no _ _ _ _ _ (by decide +kernel), p, dx, rl, ol, wl, al, s', u, 11 * tx.length, 1, rfl, G2, o2, by omega, hdn, fun H3 k3 G3 => ?_⟩
    have s3 := k3.same s2 hp nrl nol nwl
    have g3 := RS.good_down g2 hdn
    have o3 := RS.down_ok o2 hdn
    refine ⟨_, rfl, p, C, dx, _, _, rfl, G3.o, T.cl, T.nW, rf_waiting _ _ _ _ _, _, .inl ⟨_, SqL.of G3.w, rfl⟩, ?_⟩
    refine ite2 (fun h7 => ?_) (fun h7 => ?_)
    · have hne' : u.wait ≠ [] := fun z => by rw [z] at h7; cases h7
      rw [if_neg hne'] at hrd
      cases hrd
      refine ⟨_, rfl, _, rfl, by rw [S_len]; exact sz (by omega), _, rfl, fun d hd => ?_⟩
      rw [S_len]
      exact (eT _ rfl).go s3 hd
    · have he' : u.wait = [] := by
        cases hh : u.wait with
        | nil => rfl
        | cons x xs => rw [hh] at h7; exact absurd rfl h7
      rw [if_pos he'] at hrd
      cases hrd
      refine ⟨_, rfl, _, rfl, p, C, dx, _, _, rfl, G3.o, T.cl, T.nR, rf_rows _ _ _ _ _, fun x dx2 hx hdx2 hn2 => ?_⟩
      have s4 : Same H3 (upd (upd H3 dx2 (.own x)) x (.ins CP dx2 [])) := (same_new hdx2 (.own x)).trans (same_new (by rw [upd_ne (Ne.symm hn2)]; exact hx) _)
      refine ⟨x, dx2, rl, al, u.rows, rfl, upd_same, hA, G3.r.same s4, ?_, by have := o3.b; omega, g3.rows, fun H5 bt5 P5 => ⟨rfl, ?_⟩⟩
      · refine g3.rdy ?_
        rw [down_ready hdn]
        cases hh : s'.ready with
        | false => exact absurd hh h6'
        | true => rfl
      refine q _ rfl x H5 (fun b o e => ?_) (s3.free hx) P5
      have e3 := s3 b o e
      exact bt5 b o (fun z => by rw [z, hx] at e3; cases e3) (s4 b o e3)
end
end W8

set_option Elab.async false
set_option linter.all false
set_option maxRecDepth 100000
set_option maxHeartbeats 4000000
namespace W8
open PySem PySem.Spec PyProof.Rows L2 L2E
def digits : List Nat := (List.range 10).map (· + 48)
theorem digits_eq : ("0123456789" : Str) = S digits := by decide +kernel
structure NameOk (nm : List Nat) : Prop where
  n1 : 1 ≤ nm.length
  n12 : nm.length ≤ 12
  hd : ∀ c, nm[0]? = some c → c ∈ small
  all : ∀ c ∈ nm, c ∈ small ∨ c ∈ digits
abbrev sName : Stmt := top 51
theorem scName : FnScope ["name", "char"] ["name"] (defScope sName) := ⟨rfl, rfl, rfl, by decide +kernel, rfl, by decide +kernel, by decide +kernel⟩
def spName (c : Nat → Addr) : Sp := fun vs H Q E => ∃ nm : List Nat, vs = [.str (S nm)] ∧ nm.length ≤ 1000 ∧ (NameOk nm → Q (.str (S nm)) H) ∧ (¬ NameOk nm → ErrF E (c 12) "name" (.str (S nm)) H)
abbrev sRoomC : Stmt := top 53
theorem scRoomC : FnScope ["room", "least"] ["room", "least"] (defScope sRoomC) := ⟨rfl, rfl, rfl, by decide +kernel, rfl, by decide +kernel, by decide +kernel⟩
def spRoomC : Sp := fun vs H Q _ => ∃ (r l : Nat), vs = [.int (r : Int), .int (l : Int)] ∧ l ≤ r ∧ r ≤ 100 ∧ Q (.int (r : Int)) H
section
variable {P : Program} {w : World} {K : PySem.W.Frag} {mg : Str → Option Value} {base : Heap} {c : Nat → Addr} {fT fN fL : Addr}
theorem ok_roomC {f : Addr} {fd : FuncData} {t1 : Tok} (F : Fun K "check_room" "check_room" sRoomC f fd) (gM : mg "MOST_NAMES" = some (.int 100 t1)) : FnOk P w K mg base CX0 1 f fd ["room", "least"] spRoomC := by
  refine F.ok scRoomC (fun vs H Q E h => ?_) (fun cdv A outer s H vs Q E hr h => ?_)
  · obtain ⟨r, l, rfl, _⟩ := h
    rfl
  obtain ⟨r, l, rfl, h1, h2, q⟩ := h
  refine ⟨_, (pss_cons (ps_if (pt_not (pt_chain op_le op_le (pv 1) (pv 0) (pe_glob (v := .int 100) rfl gM ⟨_, rfl⟩)))
      (pss_one ps_never)
      pss_nil)
    (pss_one (ps_ret (pv 0)))), ?_⟩
  refine ⟨_, rfl, _, rfl, _, _, rfl, rfl, _, rfl, ?_⟩
  refine ite2 (fun _ => ?_) (fun z => absurd (decide_eq_true (by omega)) z)
  refine ⟨_, _, rfl, rfl, _, rfl, ?_⟩
  refine ite2 (fun z => ?_) (fun _ => ⟨_, rfl, q⟩)
  rw [decide_eq_true (show ((r : Int) ≤ 100) by omega)] at z
  cases z
theorem ok_name {f : Addr} {fd : FuncData} {t1 t2 t3 : Tok} (F : Fun K "check_name" "check_name" sName f fd) (X : BkE P K mg c fT fN fL) (tl : mg "len" = none) (gM : mg "MOST_NAME" = some (.int 12 t1)) (gS : mg "SMALL_books" = some (.str "abcdefghijklmnopqrstuvwxyz" t2)) (gD : mg "DIGITS" = some (.str "0123456789" t3)) :
    FnOk P w K mg base (L2N.CX P w) 3 f fd ["name"] (spName c) := by
  refine okN F scName (fun vs H Q E h => ?_) (fun cdv A outer s H vs Q E hr h => ?_)
  · obtain ⟨nm, rfl, _⟩ := h
    rfl
  obtain ⟨nm, rfl, hz, q, eN⟩ := h
  have go : ¬ NameOk nm → ∀ d, H d = none → E (.ref (c 12)) (some d) (upd H d (.xd [("name", .str (S nm))])) := fun n d hd => (eN n).go (Same.refl H) hd
  refine ⟨_, (pss_cons (ps_if (PW.pt (pw_or (pt_not (pt_chain op_le op_le pe_int (pB1 call_len_str tl (pv 0)) (pe_glob (v := .int 12) rfl gM ⟨_, rfl⟩))) (pw_or1 (pt_cmpR op_notIn_sign (pixS (pv 0) pe_int) (pe_glob (v := .str "abcdefghijklmnopqrstuvwxyz") rfl gS ⟨_, rfl⟩) rfl))))
      (pss_one (L2N.ps_raise rfl (L2N.takes_of rfl rfl rfl rfl) (L2N.pmk_xm X.n hr X.mN X.sup (pa_cons (pv 0) pa_nil))))
      pss_nil)
    (pss_cons (ps_for PassesOwn.leaving rfl (pi_str (pv 0)) (pg_name (i := 1) scName.nd rfl (Or.inl rfl))
      (pss_one (ps_if (PW.pt (pw_and (pt_cmpR op_notIn_sign (pv 1) (pe_glob (v := .str "abcdefghijklmnopqrstuvwxyz") rfl gS ⟨_, rfl⟩) rfl) (pw_and1 (pt_cmpR op_notIn_sign (pv 1) (pe_glob (v := .str "0123456789") rfl gD ⟨_, rfl⟩) rfl))))
        (pss_one (L2N.ps_raise rfl (L2N.takes_of rfl rfl rfl rfl) (L2N.pmk_xm X.n hr X.mN X.sup (pa_cons (pv 0) pa_nil))))
        pss_nil)))
    (pss_one (ps_ret (pv 0))))), ?_⟩
  refine ⟨_, rfl, _, rfl, by rw [S_len]; exact sz (by omega), _, _, rfl, rfl, _, rfl, ?_⟩
  rw [S_len]
  refine ite2 (fun h1 => ?_) (fun h1 => ?_)
  rotate_left
  · refine ⟨_, rfl, ite2 (fun _ => ?_) (fun z => absurd rfl z)⟩
    refine ite2 (fun _ => ?_) (fun z => absurd rfl z)
    exact ⟨_, rfl, _, rfl, fun d hd => go (fun n => h1 (decide_eq_true (by have := n.n1; omega))) d hd⟩
  have n1 : 1 ≤ nm.length := by have := of_decide_eq_true h1; omega
  refine ⟨_, _, rfl, rfl, _, rfl, ?_⟩
  refine ite2 (fun h2 => ?_) (fun h2 => ?_)
  · refine ite2 (fun _ => ?_) (fun z => absurd rfl z)
    exact ⟨_, rfl, _, rfl, fun d hd => go (fun n => decF h2 (by have := n.n12; omega)) d hd⟩
  have n12 : nm.length ≤ 12 := by have := decT h2; omega
  cases nm with
  | nil => cases n1
  | cons a r =>
    refine ⟨_, rfl, _, _, a, rfl, rfl, by rw [S_len]; exact sz (by omega), ?_, a, S small, rfl, by rw [small_eq], _, rfl, ?_⟩
    · show atI (a :: r) 0 = some a
      unfold atI ixN
      simp
    refine ite2 (fun h3 => ?_) (fun h3 => ?_)
    · exact ⟨_, rfl, _, rfl, fun d hd => go (fun n => decF h3 (n.hd a rfl)) d hd⟩
    have ha : a ∈ small := decT h3
    refine ⟨_, rfl, _, rfl, ?_⟩
    refine L2.for_it L2.walk_str (fun i σ H' => ∃ (x : Option V), σ = [some (.str (S (a :: r))), x] ∧ H' = H ∧ ∀ y ∈ (a :: r).take i, y ∈ small ∨ y ∈ digits) ⟨none, rfl, rfl, (fun y h => nomatch h)⟩ (fun _ _ _ _ _ => trivial) ?_ ?_
    · rintro i x σ H1 H2 hi ⟨z, rfl, rfl, hp⟩ ⟨rfl, ch, hc, rfl⟩
      have hc' : (a :: r)[i]? = some ch := by
        rw [← hc]
        show (a :: r)[i]? = (a :: r).toArray[i]?
        simp
      have hm := List.mem_of_getElem? hc'
      have nx : (ch ∈ small ∨ ch ∈ digits) → ∀ y ∈ (a :: r).take (i + 1), y ∈ small ∨ y ∈ digits := fun h y hy => by
        rw [List.take_add_one, hc'] at hy
        rcases List.mem_append.mp hy with g | g
        · exact hp y g
        · have : y = ch := by simpa using g
          rw [this]; exact h
      refine ⟨_, rfl, ch, S small, rfl, by rw [small_eq], _, rfl, ?_⟩
      refine ite2 (fun h4 => ?_) (fun h4 => ?_)
      · refine ⟨_, rfl, ch, S digits, rfl, by rw [digits_eq], _, rfl, ?_⟩
        refine ite2 (fun h5 => ?_) (fun h5 => ?_)
        · refine ⟨_, rfl, _, rfl, fun d hd => go (fun n => ?_) d hd⟩
          rcases n.all ch hm with g | g
          · exact decF h4 g
          · exact decF h5 g
        · exact ⟨_, rfl, rfl, nx (.inr (decT h5))⟩
      · refine ite2 (fun z => (by cases z)) (fun _ => ?_)
        exact ⟨_, rfl, rfl, nx (.inl (decT h4))⟩
    · rintro σ H1 ⟨z, rfl, rfl, hp⟩
      have e : (a :: r).take (S (a :: r)).cps.size = a :: r := List.take_of_length_le (by show (a :: r).length ≤ (a :: r).toArray.size; simp)
      rw [e] at hp
      exact ⟨_, rfl, q ⟨n1, n12, fun y hy => by cases hy; exact ha, hp⟩⟩
end
end W8

set_option Elab.async false
set_option linter.all false
set_option maxRecDepth 100000
set_option maxHeartbeats 4000000
/-! names and texts of a book, in plain Lean -/
namespace W8
open PySem PySem.Spec PyProof.Rows L2 L2E
abbrev Ent := List Nat × List Nat
def kN (n : List Nat) : Key := .inr (S n)
theorem kN_inj {a b : List Nat} : kN a = kN b ↔ a = b := ⟨fun h => S_inj (by injection h), fun h => by rw [h]⟩
def tkv (es : List Ent) : List (Key × V) := es.map fun e => (kN e.1, V.str (S e.2))
def toldE (es : List Ent) (n : List Nat) : Option (List Nat) := (es.find? fun e => decide (e.1 = n)).map (·.2)
def putE (es : List Ent) (n t : List Nat) : List Ent := if (es.any fun e => decide (e.1 = n)) = true then es.map (fun e => if e.1 = n then (e.1, t) else e) else es ++ [(n, t)]
def dropE (es : List Ent) (n : List Nat) : List Ent := es.filter fun e => decide (e.1 ≠ n)
theorem dec_kN (a b : List Nat) : decide (kN a = kN b) = decide (a = b) := by
  by_cases h : a = b
  · rw [decide_eq_true h, decide_eq_true (kN_inj.mpr h)]
  · rw [decide_eq_false h, decide_eq_false (fun z => h (kN_inj.mp z))]
theorem told_nil (n : List Nat) : toldE [] n = none := rfl
theorem told_cons (e : Ent) (es : List Ent) (n : List Nat) : toldE (e :: es) n = if e.1 = n then some e.2 else toldE es n := by
  unfold toldE
  rw [List.find?_cons]
  by_cases h : e.1 = n
  · rw [decide_eq_true h, if_pos h]; rfl
  · rw [decide_eq_false h, if_neg h]
theorem told_any (es : List Ent) (n : List Nat) : (es.any fun e => decide (e.1 = n)) = (toldE es n).isSome := by
  induction es with
  | nil => rfl
  | cons e es ih =>
    rw [List.any_cons, told_cons, ih]
    by_cases h : e.1 = n
    · rw [decide_eq_true h, if_pos h]; rfl
    · rw [decide_eq_false h, if_neg h]; rfl
theorem valV_tkv (es : List Ent) (n : List Nat) : valV (tkv es) (kN n) = (toldE es n).map fun t => V.str (S t) := by
  induction es with
  | nil => rfl
  | cons e es ih =>
    show valV ((kN e.1, V.str (S e.2)) :: tkv es) (kN n) = _
    rw [told_cons]
    by_cases h : e.1 = n
    · rw [valV_pos (kN_inj.mpr h), if_pos h]; rfl
    · rw [valV_neg (fun z => h (kN_inj.mp z)), if_neg h, ih]
theorem tkv_any (es : List Ent) (n : List Nat) : ((tkv es).any fun kv => decide (kv.1 = kN n)) = es.any fun e => decide (e.1 = n) := by
  unfold tkv
  rw [List.any_map]
  exact congrArg (fun f => es.any f) (funext fun e => dec_kN e.1 n)
theorem tkv_put (es : List Ent) (n t : List Nat) : putK (tkv es) (kN n) (V.str (S t)) = tkv (putE es n t) := by
  unfold putK putE
  rw [tkv_any]
  split
  · unfold tkv
    rw [List.map_map, List.map_map]
    refine List.map_congr_left fun e _ => ?_
    show (if kN e.1 = kN n then _ else _) = _
    by_cases h : e.1 = n
    · rw [if_pos (kN_inj.mpr h)]
      show _ = (kN (if e.1 = n then (e.1, t) else e).1, V.str (S (if e.1 = n then (e.1, t) else e).2))
      rw [if_pos h]
    · rw [if_neg (fun z => h (kN_inj.mp z))]
      show _ = (kN (if e.1 = n then (e.1, t) else e).1, V.str (S (if e.1 = n then (e.1, t) else e).2))
      rw [if_neg h]
  · unfold tkv
    rw [List.map_append]
    rfl
theorem tkv_drop (es : List Ent) (n : List Nat) : dropK (tkv es) (kN n) = tkv (dropE es n) := by
  unfold dropK dropE tkv
  rw [List.filter_map]
  refine congrArg _ (congrArg (fun f => es.filter f) (funext fun e => ?_))
  show decide (kN e.1 ≠ kN n) = decide (e.1 ≠ n)
  by_cases h : e.1 = n
  · have g : kN e.1 = kN n := kN_inj.mpr h
    simp [h, g]
  · have g : ¬ kN e.1 = kN n := fun z => h (kN_inj.mp z)
    simp [h, g]
/-- another table with the same names -/
theorem any_R {R : Key × V → Ent → Prop} (hR : ∀ kv e, R kv e → kv.1 = kN e.1) (n : List Nat) : ∀ {kvs : List (Key × V)} {es : List Ent}, Paired R kvs es → (kvs.any fun kv => decide (kv.1 = kN n)) = es.any fun e => decide (e.1 = n)
  | _, _, .nil => rfl
  | kv :: kvs, e :: es, .cons a b => by
    rw [List.any_cons, List.any_cons, any_R hR n b, hR kv e a, dec_kN]
def updK (k : Key) (v : V) (kv : Key × V) : Key × V := if kv.1 = k then (kv.1, v) else kv
def updE (n t : List Nat) (e : Ent) : Ent := if e.1 = n then (e.1, t) else e
theorem map_R {R : Key × V → Ent → Prop} (hR : ∀ kv e, R kv e → kv.1 = kN e.1) {n t : List Nat} {v : V} (h : R (kN n, v) (n, t)) : ∀ {kvs : List (Key × V)} {es : List Ent}, Paired R kvs es → Paired R (kvs.map (updK (kN n) v)) (es.map (updE n t))
  | _, _, .nil => .nil
  | kv :: kvs, e :: es, .cons a b => by
    refine Paired.cons ?_ (map_R hR h b)
    have e1 := hR kv e a
    unfold updK updE
    by_cases g : e.1 = n
    · rw [if_pos (by rw [e1, g]), if_pos g, e1, g]
      exact h
    · rw [if_neg (by rw [e1]; exact fun z => g (kN_inj.mp z)), if_neg g]
      exact a
theorem put_R {R : Key × V → Ent → Prop} (hR : ∀ kv e, R kv e → kv.1 = kN e.1) {n t : List Nat} {v : V} (h : R (kN n, v) (n, t)) {kvs : List (Key × V)} {es : List Ent} (p : Paired R kvs es) : Paired R (putK kvs (kN n) v) (putE es n t) := by
  unfold putK putE
  rw [any_R hR n p]
  split
  · exact map_R hR h p
  · exact paired_snoc p h
theorem drop_R {R : Key × V → Ent → Prop} (hR : ∀ kv e, R kv e → kv.1 = kN e.1) (n : List Nat) : ∀ {kvs : List (Key × V)} {es : List Ent}, Paired R kvs es → Paired R (dropK kvs (kN n)) (dropE es n)
  | _, _, .nil => .nil
  | kv :: kvs, e :: es, .cons a b => by
    have e1 := hR kv e a
    unfold dropK dropE
    rw [List.filter_cons, List.filter_cons]
    by_cases g : e.1 = n
    · rw [if_neg (by rw [e1, g]; simp), if_neg (by simp [g])]
      exact drop_R hR n b
    · have g2 : kv.1 ≠ kN n := by rw [e1]; exact fun z => g (kN_inj.mp z)
      rw [if_pos (by simp [g2]), if_pos (by simp [g])]
      exact .cons a (drop_R hR n b)
theorem valV_R {R : Key × V → Ent → Prop} (hR : ∀ kv e, R kv e → kv.1 = kN e.1) (n : List Nat) : ∀ {kvs : List (Key × V)} {es : List Ent}, Paired R kvs es → (valV kvs (kN n)).isSome = (toldE es n).isSome := fun {kvs es} p => by
  rw [← valV_any, ← told_any, any_R hR n p]
theorem told_mem {es : List Ent} {n t : List Nat} (h : toldE es n = some t) : (n, t) ∈ es := by
  unfold toldE at h
  obtain ⟨e, he, rfl⟩ := Option.map_eq_some_iff.mp h
  have h1 := List.mem_of_find?_eq_some he
  have h2 : decide (e.1 = n) = true := List.find?_some (p := fun e : Ent => decide (e.1 = n)) he
  rw [← of_decide_eq_true h2]
  exact h1
theorem put_len {es : List Ent} {n t : List Nat} : (putE es n t).length = if (toldE es n).isSome = true then es.length else es.length + 1 := by
  unfold putE
  rw [told_any]
  split
  · rw [List.length_map]
  · rw [List.length_append]; rfl
theorem put_mem {es : List Ent} {n t : List Nat} {e : Ent} (h : e ∈ putE es n t) : e ∈ es ∨ e = (n, t) := by
  unfold putE at h
  split at h
  · obtain ⟨d, hd, rfl⟩ := List.mem_map.mp h
    by_cases g : d.1 = n
    · rw [if_pos g]; exact .inr (by rw [g])
    · rw [if_neg g]; exact .inl hd
  · rcases List.mem_append.mp h with g | g
    · exact .inl g
    · exact .inr (List.mem_singleton.mp g)
end W8

set_option Elab.async false
set_option linter.all false
set_option maxRecDepth 100000
set_option maxHeartbeats 4000000
/-! list(o): o's __iter__ gives iter(o.f), f a dict, and o has its own __len__ -/
namespace L2
open PySem PySem.Spec PyProof.Rows
def spLenD (C : Addr) : Sp := fun vs H Q _ => ∃ (a dx : Addr) (fs : List (Str × V)) (n : Nat), vs = [.ref a] ∧ H a = some (.ins C dx fs) ∧ n ≤ sizeLine ∧ Q (.int (n : Int)) H
section
variable {X : Cx} {pins : List (Addr × Obj)} {σ : St} {H : Hp} {s : Shared} {CX : CXT} {k : Nat} {C f a dx : Addr} {fs : List (Str × V)} {fd : FuncData} {E : XK} {sp : Sp}
theorem len_own_at {A : Around} {Ex : Value → Shared → Prop} (sb : Sub X (k + 1) A) (F : FnOk X.prog X.w X.K X.mg X.base CX0 k f fd ["self"] sp) (hm : Meth X.K C "__len__" f) (hb : Binds X.K fd ["self"] [])
    (I : Inv X pins σ H s) (ha : H a = some (.ins C dx fs)) (hsp : sp [.ref a] H (fun v H' => ∃ n : Nat, v = .int (n : Int) ∧ n ≤ sizeLine ∧ H' = H) E0) :
    wpAny (model X.prog X.w) A (call (.builtin "len") [.ref a]) (fun v s' => ∃ (n : Nat) (t : Tok), v = .int (n : Int) t ∧ n ≤ sizeLine ∧ Inv X pins σ H s') Ex s := by
  obtain ⟨mA, J, _⟩ := ins_get I.hok ha
  obtain ⟨od, J, _⟩ := J.look
  refine Calls.call_function_entry kind_len plain_len entry_len (args_len1 _) ?_
  unfold Builtin.«len»
  refine wpAny_bind (m := oneArg "len" _) (wpAny_pure ?_)
  have e0 : Env0 X.prog X.w X.K X.mg X.base A.in1 X.stack s H := by
    have e := I.env0
    exact ⟨by rw [(sb.in1).fr]; exact e.frames, e.mod, e.bs, e.bsz, e.funs, e.frf, e.hok, e.bare⟩
  have hl := F.len _ _ _ _ hsp
  have body : wpAny (model X.prog X.w) A.in1 (call (.ref f) [.ref a]) (fun v s' => ∃ n : Nat, (∃ t, v = .int (n : Int) t) ∧ n ≤ sizeLine ∧ Inv X pins σ H s') Ex s := by
    refine wpAny_call (codeAny_mono (F.run A.in1 X.stack s H ⟨[.ref a], []⟩ [.ref a] [.ref a] _ E0 sb.in1.room e0 (by
      have := hb s [.ref a] I.kIn (by simpa using hl)
      simpa using this) (.cons rfl .nil) hsp) fun r s' hq => ?_)
    cases r with
    | error e => exact False.elim hq
    | ok fl =>
      cases fl with
      | ret w =>
        obtain ⟨z, H', I', rz, n, ez, hn, eH⟩ := I.after hq
        subst ez
        subst eH
        exact ⟨n, rz, hn, I'⟩
      | next => exact False.elim hq
      | brk => exact False.elim hq
      | cont => exact False.elim hq
  have special : ∀ {Q' : Option Value → Shared → Prop}, wpAny (model X.prog X.w) A.in1 (call (.ref f) [.ref a]) (fun v s' => Q' (some v) s') Ex s → wpAny (model X.prog X.w) A.in1 (callSpecial? (.ref a) (Str.ofString "__len__")) Q' Ex s := fun q => PySem.W.special_fn I.kIn J hm.at_ (beq_iff_eq.mp hm.fn) q
  refine wpAny_bind (m := callSpecial? (.ref a) (Str.ofString "__len__")) (special (wpAny_mono body (fun v s' hv => ?_) fun _ _ z => z))
  obtain ⟨n, ⟨t, rfl⟩, hn, I'⟩ := hv
  have hn' := hn
  rw [sizeLine_eq] at hn
  refine wpAny_bind (wpAny_holding (wpAny_pure ?_))
  refine wpAny_bind (wpAny_letGo ?_)
  show wpAny _ _ (if ((n : Nat) : Int) < 0 then _ else _) _ _ _
  rw [if_neg (by omega)]
  show wpAny _ _ (if ((n : Nat) : Int) ≥ 2 ^ 63 then _ else _) _ _ _
  rw [if_neg (by omega)]
  exact wpAny_bind (wpAny_mkInt (wpAny_pure ⟨_, rfl, n, _, rfl, hn', I'.tok _⟩))
theorem hint_own {A : Around} {Q : Bool → Shared → Prop} (sb : Sub X (k + 1) A) (F : FnOk X.prog X.w X.K X.mg X.base CX0 k f fd ["self"] sp) (hm : Meth X.K C "__len__" f) (hb : Binds X.K fd ["self"] [])
    (I : Inv X pins σ H s) (ha : H a = some (.ins C dx fs)) (hsp : sp [.ref a] H (fun v H' => ∃ n : Nat, v = .int (n : Int) ∧ n ≤ sizeLine ∧ H' = H) E0) (q : ∀ b s', Inv X pins σ H s' → Q b s') :
    wpAny (model X.prog X.w) A (Builtin.List.listLengthHint (.ref a)) Q X.xe s := by
  obtain ⟨mA, J, _⟩ := ins_get I.hok ha
  obtain ⟨od, J, _⟩ := J.look
  unfold Builtin.List.listLengthHint
  refine wpAny_bind (wpAny_bind (J.type.here ((PySem.W.looks_findIn I.kIn hm.at_).here ?_)))
  refine PySem.W.KFB.if_not rfl ?_
  simp only [Option.isSome_some, if_true]
  refine wpAny_bind (wpAny_rule ?_)
  refine wpAny_bind (wpAny_attempt (wpAny_mono (len_own_at (Ex := fun _ _ => False) sb F hm hb (I.tok _) ha hsp) (fun v s' ⟨n, t, ev, hn, I'⟩ => ?_) fun e s' z => False.elim z))
  subst ev
  refine wpAny_bind (m := asInt? (.int (n : Int) t)) (wpAny_pure ?_)
  have hl : Builtin.List.listTooLong ((n : Int)).toNat = false := by
    unfold Builtin.List.listTooLong
    rw [Int.toNat_natCast]
    exact decide_eq_false (by omega)
  show wpAny _ _ (if Builtin.List.listTooLong ((n : Int)).toNat = true then _ else _) _ _ _
  rw [if_neg (by rw [hl]; exact Bool.false_ne_true)]
  exact wpAny_pure (q _ _ I')
/-- the list at S is written anew, the iterator at it has turned -/
theorem Inv.relist {h' : Heap} {S it : Addr} {xs ys : List V} {us : List Value} {c : Nat} {t' : Nat} (I : Inv X pins σ H s) (hS : H S = some (.lst xs)) (fi : FpOk X pins H it)
    (k : ∀ b o, b ≠ S → b ≠ it → s.heap.get? b = some o → h'.get? b = some o) (e : h'.get? S = some { cls := .type "list", data := .seq us.toArray c }) (hv : Vals ys us) (hz : ys.length ≤ sizeLine) :
    Inv X pins σ (upd H S (.lst ys)) { s with heap := h', toks := t' } := by
  obtain ⟨hn, hL, _, h1, h2, h3⟩ := fi
  have nS : ∀ {b : Addr} {u : HO}, H b = some u → (∀ zs, u ≠ .lst zs) → b ≠ S := fun q z w => by
    rw [w, hS] at q
    exact z xs (Option.some.inj q).symm
  have nS0 : ∀ {b : Addr}, H b = none → b ≠ S := fun q w => by rw [w, hS] at q; cases q
  have nit : ∀ {b : Addr} {u : HO}, H b = some u → b ≠ it := fun q z => by rw [z, hn] at q; cases q
  refine I.step (g' := s.gens) (d' := s.drawn) (ch := [it]) (fun b hb => ?_) (fun b o _ _ hc q n => k b o (nS0 n) (fun z => hc (by simp [z])) q) (fun b o _ _ hc q n => ⟨o.slots, k b o (nS0 n) (fun z => hc (by simp [z])) q⟩) (fun b _ _ _ n => by rw [upd_ne (nS0 n)]; exact n)
    (fun b o hc q => ?_) (fun b _ q => by rw [upd_ne (nS q (fun _ z => nomatch z))]; exact q) (fun b _ _ q => by rw [upd_ne (nS q (fun _ z => nomatch z))]; exact q) (fun b ps q => ⟨#[], by rw [upd_ne (nS q (fun _ z => nomatch z)), q]; simp⟩) (fun m hm => ?_) (fun b u q => ?_) I.bare
  · have e : b = it := by simpa using hb
    subst e
    exact ⟨h1, hL, h2, h3⟩
  · by_cases hb : b = S
    · exact ⟨_, by rw [hb]; exact e⟩
    · exact ⟨o, k b o hb (fun z => hc (by simp [z])) q⟩
  · obtain ⟨o, es, ep, ho, r⟩ := hm
    exact ⟨o, es, ep, k _ o (nS0 I.free) (Ne.symm hL) ho, r⟩
  · by_cases hb : b = S
    · subst hb
      rw [upd_same] at q
      cases q
      exact ⟨hz, us, c, hv, e⟩
    · rw [upd_ne hb] at q
      refine (I.hok b u q).stay (fun c v hc q2 => k c v ?_ ?_ q2) (fun c q2 => ?_) fun c zs q2 => ?_
      · rcases hc with z | z
        · rw [z]; exact hb
        · exact nS z (fun _ w => nomatch w)
      · rcases hc with z | z
        · rw [z]; exact nit q
        · exact nit z
      · rw [upd_ne (nS q2 (fun _ w => nomatch w))]; exact q2
      · rw [upd_ne (nS q2 (fun _ w => nomatch w))]; exact q2
variable {fI fL : Addr} {fdI fdL : FuncData} {fl : Str} {spL : Sp}
theorem ownD_extend {A1 : Around} {Rs : Result → Shared → Prop} {d S : Addr} {o : Obj} {kvs : List (Key × V)} (hc : X.calm = true) (hh1 : A1.in1.handled = X.A.handled) (sb : Sub X (k + 1) A1.in1)
    (FI : FnAt X.prog X.w X.K X.mg X.base CX0 k fI fdI ["self"] (spIterD C fl)) (hmI : Meth X.K C "__iter__" fI) (bI : Binds X.K fdI ["self"] [])
    (FL : FnOk X.prog X.w X.K X.mg X.base CX0 k fL fdL ["self"] spL) (hmL : Meth X.K C "__len__" fL) (bL : Binds X.K fdL ["self"] [])
    (I : Inv X pins σ H s) (ha : H a = some (.ins C dx fs)) (hf : fs.lookup fl = some (.ref d)) (hd : H d = some (.frz o (.dK kvs))) (hS : H S = some (.lst [])) (hz : kvs.length ≤ sizeLine)
    (hsp : ∀ H', (∀ b u, H b = some u → H' b = some u) → spL [.ref a] H' (fun v H'' => ∃ n : Nat, v = .int (n : Int) ∧ n ≤ sizeLine ∧ H'' = H') E0)
    (hdone : ∀ s', Inv X pins σ (upd H S (.lst (kvs.map fun kv => kV kv.1))) s' → Rs (.ok (.ret .none)) s') (herr : ∀ e s, X.xe e s → Rs (.error e) s) :
    wpAny (model X.prog X.w) A1.in1 (Builtin.List.listExtendWith (.ref S) (.ref a) .none)
      (fun fin s' => match fin with | .done f => Rs (.ok f) s' | .again c' => c'.quiet = true ∧ codeAny (model X.prog X.w) A1 c' Rs s') (fun e s' => Rs (.error e) s') s := by
  have hne : S ≠ a := ne_of hS ha (fun z => nomatch z)
  obtain ⟨mA, J, _⟩ := ins_get I.hok ha
  obtain ⟨od, J, _⟩ := J.look
  unfold Builtin.List.listExtendWith
  refine wpAny_bind (J.type.here ?_)
  have h1 : Builtin.List.listSameRef (.ref S) (.ref a) = false := by simp [Builtin.List.listSameRef, hne]
  have h2 : (Value.ref C == Value.type "list") = false := rfl
  have h3 : (Value.ref C == Value.type "tuple") = false := rfl
  simp only [h1, h2, h3, Bool.or_false, Bool.false_eq_true, if_false]
  refine wpAny_bind (wpAny_mono (iter_own (A := A1.in1) sb.fr (sb.room.mono (Nat.le_succ _)) FI hmI bI I ha hf hd (Q := fun v s' => ∃ it, v = .ref it ∧ s.heap.objs.size ≤ it ∧ H it = none ∧ Inv X pins σ (upd H it (KitO d it o)) s') fun it s1 hn I1 hi => ⟨it, rfl, hn, hi, I1⟩) (fun v s1 hv => ?_) herr)
  obtain ⟨it, rfl, hn, hi, I1⟩ := hv
  have same : ∀ b u, H b = some u → upd H it (KitO d it o) b = some u := fun b u e => by rw [upd_ne (fun z => by rw [z, hi] at e; cases e)]; exact e
  refine wpAny_bind (wpAny_holding (wpAny_mono (hint_own (Q := fun b s' => Inv X pins σ (upd H it (KitO d it o)) s') sb FL hmL bL I1 (same _ _ ha) (hsp _ same) fun b s' I' => I') (fun b s2 I2 => ?_) herr))
  have loop : ∀ s3, Inv X pins σ (upd H it (KitO d it o)) s3 → codeAny (model X.prog X.w) A1 (.builtin "list.extend.loop" ⟨[.ref S, .ref it, .none], []⟩) Rs s3 := by
    intro s3 I3
    obtain ⟨es, ep, hdt, hg⟩ : ∃ es ep, o.data = .dict es ep ∧ s3.heap.get? it = some (kitObj d es.size ep) := (I3.hok it _ upd_same).1
    obtain ⟨hs, hgd, hx, es2, ep2, vs, hdt2, hsz, kv, hm⟩ := I3.frzK (same _ _ hd)
    obtain ⟨rfl, rfl⟩ := dict_ep hdt hdt2
    obtain ⟨z, its, c, r3, hl3, e3⟩ := I3.lstM (same _ _ hS)
    cases r3
    have hl : kvs.length = vs.length := Paired.length kv
    have nSi : S ≠ it := fun z => by rw [z, hi] at hS; cases hS
    have nSd : S ≠ d := fun z => by rw [z, hd] at hS; cases hS
    have ndi : d ≠ it := fun z => by rw [z, hi] at hd; cases hd
    have hh : A1.in1.handled = none := hh1.trans (I3.ok.hd hc)
    have W := Walks.dictKeys (prog := X.prog) (w := X.w) (knd := mixKind X.prog X.w) hh it d ndi vs ep2
    have I4 : Inv X pins σ H s3 := by
      have := ItX.inv_drop I3 (a := it) upd_same
      rw [ItX.dropH_upd hi] at this
      exact this
    have fp : FpOk X pins H it := by
      have := ItX.inv_fp I3 (a := it) upd_same (Nat.le_trans I.sz hn)
      rw [ItX.dropH_upd hi] at this
      exact this
    refine codeAny_extend_loopS W.toS (by rw [← hl]; exact hz) S (by simp only [List.mem_cons, List.not_mem_nil, or_false, not_or]; exact ⟨nSi, nSd⟩) .none vs.length 0 s3 #[] c rfl (Nat.zero_le _) ⟨⟨_, hg, rfl, by rw [hsz, hl]; rfl⟩, hm⟩ e3 (ItemsOf.nil _) fun s' acc' c' hmv hS' hacc => ?_
    rw [Moved.eq_with hmv]
    refine hdone _ (Inv.relist (us := acc'.toList) (c := c') I4 hS fp (fun b o h1 h2 e => hmv.heap b o (by simp only [List.mem_cons, List.not_mem_nil, or_false, not_or]; exact ⟨h1, h2⟩) e) (by rw [Array.toArray_toList]; exact hS') ?_ (by rw [List.length_map]; exact hz))
    have el : acc'.toList.length = acc'.size := by simp
    refine vals_of_at (by rw [List.length_map, el, hacc.1, hl]) fun j x w h1 h2 => ?_
    obtain ⟨k, y, hky, hi⟩ := hacc.2 j w (by rw [← Array.getElem?_toList]; exact h2)
    have e1 : (kvs.map (·.1))[j]? = some k := by
      rw [KV.keys kv, List.getElem?_map, hky] <;> rfl
    have e2 : (kvs.map fun kv => kV kv.1)[j]? = some (kV k) := by
      have e3 : (kvs.map fun kv => kV kv.1) = (kvs.map (·.1)).map kV := by rw [List.map_map] <;> rfl
      rw [e3, List.getElem?_map, e1] <;> rfl
    rw [e2] at h1
    cases h1
    exact keyIs_rel hi
  obtain ⟨z, its, c, r3, hl3, e3⟩ := I2.lstM (same _ _ hS)
  cases r3
  refine wpAny_ite_split (fun _ => ?_) (fun _ => wpAny_pure ⟨plainId_quiet PySem.F.plain_extend_loop _, loop s2 I2⟩)
  refine wpAny_bind (wpAny_rule ?_)
  refine wpAny_bind ?_
  show wpAny _ _ (updateSeq S (·.push .none) >>= fun _ => updateSeq S (·.pop)) _ _ _
  refine wpAny_bind (wpAny_updateSeq e3 rfl ?_)
  have I3 := I2.lset (f := (·.push Value.none)) (its' := [Value.none]) (ys := [.non]) (t' := s2.toks) (same _ _ hS) e3 (by simp) (.cons rfl .nil) (by rw [List.length_singleton, sizeLine_eq]; decide)
  obtain ⟨z4, its4, k4, r4, hl4, e4⟩ := I3.lstM upd_same
  obtain ⟨u4, rfl, ru4⟩ := r4.one
  refine wpAny_updateSeq e4 rfl ?_ (by show 1 ≤ sizeLine; rw [sizeLine_eq]; decide) (by show 0 ≤ sizeLine + 1; exact Nat.zero_le _)
  have I4 := I3.lset (f := (·.pop)) (its := [u4]) (its' := []) (ys := []) (t' := s2.toks) upd_same e4 (by rfl) .nil (Nat.zero_le _)
  rw [upd_upd] at I4
  have hH : upd (upd H it (KitO d it o)) S (.lst []) = upd H it (KitO d it o) := by
    funext b
    by_cases hb : b = S
    · rw [hb, upd_same, same _ _ hS]
    · rw [upd_ne hb]
  rw [hH] at I4
  exact wpAny_pure ⟨plainId_quiet PySem.F.plain_extend_loop _, loop _ I4⟩
/-- list(o) -/
def rListOwn (C : Addr) (fl : Str) (spL : Sp) : List V → Hp → VK → Prop := fun xs H Q => ∃ (a dx : Addr) (fs : List (Str × V)) (d : Addr) (o : Obj) (kvs : List (Key × V)), xs = [.ref a] ∧ H a = some (.ins C dx fs) ∧ fs.lookup fl = some (.ref d) ∧ H d = some (.frz o (.dK kvs)) ∧ kvs.length ≤ sizeLine ∧
  (∀ H', (∀ b u, H b = some u → H' b = some u) → spL [.ref a] H' (fun v H'' => ∃ n : Nat, v = .int (n : Int) ∧ n ≤ sizeLine ∧ H'' = H') E0) ∧ ∀ q, H q = none → Q (.ref q) (upd H q (.lst (kvs.map fun kv => kV kv.1)))
theorem call_listOwnD (hc : X.calm = true) (FI : FnAt X.prog X.w X.K X.mg X.base CX0 k fI fdI ["self"] (spIterD C fl)) (hmI : Meth X.K C "__iter__" fI) (bI : Binds X.K fdI ["self"] [])
    (FL : FnOk X.prog X.w X.K X.mg X.base CX0 k fL fdL ["self"] spL) (hmL : Meth X.K C "__len__" fL) (bL : Binds X.K fdL ["self"] []) (hr : Room (k + 3) X.A) : CallR X (.type "list") (rListOwn C fl spL) := by
  intro pins s σ H xs us Q I rv h
  obtain ⟨a, dx, fs, d, o, kvs, rfl, ha, hf, hd, hz, hsp, hq⟩ := h
  obtain ⟨u, rfl, ru⟩ := rv.one
  cases ru
  have sb : Sub X (k + 1) X.A.in1.in1 := (Sub.in1 (Sub.in1 (⟨hr, rfl⟩ : Sub X (k + 3) X.A)))
  refine callType_codes (Q₁ := fun obj s₁ => obj = .ref s.heap.objs.size ∧ s₁ = { s with heap := s.heap.push { cls := .type "list", data := .seq #[] } }) PySem.F.called_list (PySem.F.typeCall_list_1 _) PySem.F.entry_list_init
    (code_list_new _ ⟨rfl, rfl⟩) fun obj s₁ h₁ => ?_
  obtain ⟨rfl, rfl⟩ := h₁
  have hS : (s.heap.push { cls := .type "list", data := .seq #[] }).get? s.heap.objs.size = some { cls := .type "list", data := .seq #[] } := Heap.get?_push_size _ rfl
  refine ⟨⟨_, hS, rfl⟩, PySem.F.args_list_init_2 _ _, ?_⟩
  have fr : H s.heap.objs.size = none := I.hok.fresh (Nat.le_refl _)
  have keep : ∀ b u, H b = some u → upd H s.heap.objs.size (.lst []) b = some u := fun b u e => by rw [upd_ne (ne_of_none e fr)]; exact e
  have I1 : Inv X pins σ (upd H s.heap.objs.size (.lst [])) { s with heap := s.heap.push { cls := .type "list", data := .seq #[] } } := I.lnew (its := []) (t' := s.toks) .nil (Nat.zero_le _)
  show wpAny _ _ (do let old ← Builtin.List.listItems (.ref s.heap.objs.size); Builtin.List.listUpdate (.ref s.heap.objs.size) (fun _ => #[]); letGo old.toList.reverse; Builtin.List.listExtendWith (.ref s.heap.objs.size) (.ref a) .none) _ _ _
  refine wpAny_bind ?_
  unfold Builtin.List.listItems
  refine wpAny_bind (wpAny_seqItems hS rfl (wpAny_pure ?_))
  show wpAny _ _ (updateSeq s.heap.objs.size (fun _ => #[]) >>= fun _ => letGo (#[] : Array Value).toList.reverse >>= fun _ => Builtin.List.listExtendWith (.ref s.heap.objs.size) (.ref a) .none) _ _ _
  refine wpAny_bind (wpAny_updateSeq hS rfl ?_)
  have I2 := I1.lset (f := fun _ => #[]) (its := []) (its' := []) (ys := []) (t' := s.toks) upd_same hS rfl .nil (Nat.zero_le _)
  rw [upd_upd] at I2
  refine wpAny_bind (wpAny_letGo ?_)
  refine ownD_extend (A1 := X.A.in1) (Rs := wants (fun r s₂ => r = .none ∧ EP X pins σ Q (.ref s.heap.objs.size) s₂) X.xe) hc rfl sb FI hmI bI FL hmL bL I2 (keep _ _ ha) hf (keep _ _ hd) upd_same hz (fun H' h' => hsp H' fun b u e => h' b u (keep b u e))
    (fun s' I' => ⟨rfl, .ref s.heap.objs.size, _, I', rfl, ?_⟩) (fun e s' he => he)
  rw [upd_upd]
  exact hq _ fr
end
end L2

set_option Elab.async false
set_option linter.all false
set_option maxRecDepth 100000
set_option maxHeartbeats 4000000
/-! len(o), the class has its own __len__ -/
namespace L2
open PySem PySem.Spec PyProof.Rows
def rLenOwn (C : Addr) (sp : Sp) (E : XK) : List V → Hp → VK → Prop := fun xs H Q => ∃ a dx fs, xs = [.ref a] ∧ H a = some (.ins C dx fs) ∧ sp [.ref a] H (fun v H' => ∃ n : Nat, v = .int (n : Int) ∧ n ≤ sizeLine ∧ Q (.int (n : Int)) H') E
theorem call_lenOwn {X : Cx} {CX : CXT} {k : Nat} {C f : Addr} {fd : FuncData} {ps : List Str} {sp : Sp} {E : XK} (F : FnOk X.prog X.w X.K X.mg X.base CX k f fd ps sp) (hm : Meth X.K C "__len__" f) (hb : Binds X.K fd ps []) (hx : Passes CX X E) (hr : Room (k + 1) X.A) :
    CallR X (.builtin "len") (rLenOwn C sp E) := by
  intro pins s σ H xs us Q I r h
  obtain ⟨a, dx, fs, rfl, ha, hsp⟩ := h
  obtain ⟨u, rfl, rx⟩ := vals1 r
  cases rx
  obtain ⟨mA, J, _⟩ := ins_get I.hok ha
  obtain ⟨od, J, _⟩ := J.look
  refine Calls.call_function_entry kind_len plain_len entry_len (args_len1 _) ?_
  unfold Builtin.«len»
  refine wpAny_bind (m := oneArg "len" _) (wpAny_pure ?_)
  have e0 : Env0 X.prog X.w X.K X.mg X.base X.A.in1 X.stack s H := by
    have e := I.env0
    exact ⟨e.frames, e.mod, e.bs, e.bsz, e.funs, e.frf, e.hok, e.bare⟩
  have hl := F.len _ _ _ _ hsp
  have r2 : Vals [V.ref a] [Value.ref a] := .cons rfl .nil
  have body : wpAny (model X.prog X.w) X.A.in1 (call (.ref f) [.ref a]) (fun v s' => ∃ n : Nat, (∃ t, v = .int (n : Int) t) ∧ n ≤ sizeLine ∧ ∃ H', Inv X pins σ H' s' ∧ Q (.int (n : Int)) H') X.xe s := by
    refine wpAny_call (codeAny_mono (F.run X.A.in1 X.stack s H ⟨[.ref a], []⟩ [.ref a] [.ref a] _ E hr.in1 e0 (by
      have := hb s [.ref a] I.kIn (by simpa using hl)
      simpa using this) r2 hsp) fun r s' hq => ?_)
    cases r with
    | error e => exact hx pins σ H s e s' I hq
    | ok fl =>
      cases fl with
      | ret w =>
        obtain ⟨z, H', I', rz, n, ez, hn, q⟩ := I.after hq
        subst ez
        exact ⟨n, rz, hn, H', I', q⟩
      | next => exact False.elim hq
      | brk => exact False.elim hq
      | cont => exact False.elim hq
  have special : ∀ {Q' : Option Value → Shared → Prop}, wpAny (model X.prog X.w) X.A.in1 (call (.ref f) [.ref a]) (fun v s' => Q' (some v) s') X.xe s → wpAny (model X.prog X.w) X.A.in1 (callSpecial? (.ref a) (Str.ofString "__len__")) Q' X.xe s := fun q => by
    unfold callSpecial? specialOf
    refine wpAny_bind (wpAny_bind (J.type.here ((PySem.W.looks_findIn I.kIn hm.at_).here ?_)))
    refine wpAny_holding ?_
    refine wpAny_bind ((PySem.W.bind_fn I.kIn _ (beq_iff_eq.mp hm.fn)).here ?_)
    exact wpAny_bind (wpAny_mono q (fun v s' z => wpAny_pure z) fun _ _ z => z)
  refine wpAny_bind (m := callSpecial? (.ref a) (Str.ofString "__len__")) (special (wpAny_mono body (fun v s' hv => ?_) fun _ _ z => z))
  obtain ⟨n, ⟨t, rfl⟩, hn, H', I', q⟩ := hv
  rw [sizeLine_eq] at hn
  refine wpAny_bind (wpAny_holding (wpAny_pure ?_))
  refine wpAny_bind (wpAny_letGo ?_)
  show wpAny _ _ (if ((n : Nat) : Int) < 0 then _ else _) _ _ _
  rw [if_neg (by omega)]
  show wpAny _ _ (if ((n : Nat) : Int) ≥ 2 ^ 63 then _ else _) _ _ _
  rw [if_neg (by omega)]
  exact wpAny_bind (wpAny_mkInt (wpAny_pure ⟨_, rfl, .int (n : Int), H', I'.tok _, ⟨_, rfl⟩, q⟩))
end L2

set_option Elab.async false
set_option linter.all false
set_option maxRecDepth 100000
set_option maxHeartbeats 4000000
/-! books -/
namespace W8
open PySem PySem.Spec PyProof.Rows L2 L2E
def bkf (a b c d e f : V) : List (Str × V) := [("letters", a), ("texts", b), ("patterns", c), ("former_texts", d), ("former_patterns", e), ("_room", f)]
theorem bk_letters (a b c d e f : V) : (bkf a b c d e f).lookup ("letters" : Str) = some a := by rfl
theorem bk_texts (a b c d e f : V) : (bkf a b c d e f).lookup ("texts" : Str) = some b := by rfl
theorem bk_patterns (a b c d e f : V) : (bkf a b c d e f).lookup ("patterns" : Str) = some c := by rfl
theorem bk_room (a b c d e f : V) : (bkf a b c d e f).lookup ("_room" : Str) = some f := by rfl
theorem bk_no (a b c d e f : V) {m : Str} (h : (((((m == ("letters" : Str)) = false ∧ (m == ("texts" : Str)) = false) ∧ (m == ("patterns" : Str)) = false) ∧ (m == ("former_texts" : Str)) = false) ∧ (m == ("former_patterns" : Str)) = false) ∧ (m == ("_room" : Str)) = false) : (bkf a b c d e f).lookup m = none := by
  unfold bkf
  rw [List.lookup_cons, h.1.1.1.1.1, List.lookup_cons, h.1.1.1.1.2, List.lookup_cons, h.1.1.1.2, List.lookup_cons, h.1.1.2, List.lookup_cons, h.1.2, List.lookup_cons, h.2]
  rfl
structure BkT (K : PySem.W.Frag) (mg : Str → Option Value) (C : Addr) : Prop where
  cl : Cls K C
  nL : NoAttr K C "letters"
  nT : NoAttr K C "texts"
  nP : NoAttr K C "patterns"
  nF : NoAttr K C "former_texts"
  nG : NoAttr K C "former_patterns"
  nR : NoAttr K C "_room"
  mgC : mg "Book" = some (.ref C)
  len : mg "len" = none
/-- the pattern of a name's text -/
def PatE (H : Hp) (CP : Addr) (al : List Nat) (kv : Key × V) (e : Ent) : Prop := kv.1 = kN e.1 ∧ ∃ p rows, kv.2 = .ref p ∧ readP al e.2 = some (.rows rows) ∧ PatAt H p CP al rows
theorem PatE.key {H : Hp} {CP : Addr} {al : List Nat} : ∀ kv e, PatE H CP al kv e → kv.1 = kN e.1 := fun _ _ h => h.1
structure BookAt (H : Hp) (p dx td pd f1 f2 C CP : Addr) (al : List Nat) (room : Nat) (es : List Ent) : Prop where
  o : H p = some (.ins C dx (bkf (.str (S al)) (.ref td) (.ref pd) (.ref f1) (.ref f2) (.int (room : Int))))
  t : H td = some (.dK (tkv es))
  q : ∃ kps, H pd = some (.dK kps) ∧ Paired (PatE H CP al) kps es
  n : td ≠ pd
  A : AlphOk al
  r : room ≤ 100
  l : es.length ≤ room
  v : ∀ e ∈ es, NameOk e.1 ∧ e.2.length ≤ 200
/-- all but a book's two tables are kept -/
def KB (td pd : Addr) (H H' : Hp) : Prop := ∀ b o, b ≠ td → b ≠ pd → H b = some o → H' b = some o
theorem KB.of {td pd : Addr} {H H' : Hp} (s : Same H H') : KB td pd H H' := fun b o _ _ e => s b o e
theorem KB.trans {td pd : Addr} {H H1 H2 : Hp} (x : KB td pd H H1) (y : KB td pd H1 H2) : KB td pd H H2 := fun b o h1 h2 e => y b o h1 h2 (x b o h1 h2 e)
/-- the tables are not among what is looked at -/
theorem KB.same {td pd : Addr} {H0 H H' : Hp} (k : KB td pd H H') (s : Same H0 H) (n1 : H0 td = none) (n2 : H0 pd = none) : Same H0 H' := fun b o e => by
  refine k b o (fun z => ?_) (fun z => ?_) (s b o e) <;> rw [z] at e
  · rw [n1] at e; cases e
  · rw [n2] at e; cases e
theorem PatAt.kb {H H' : Hp} {p C td pd : Addr} {al : List Nat} {rows : List Row} {xs ys : List (Key × V)} (h : PatAt H p C al rows) (k : KB td pd H H') (h1 : H td = some (.dK xs)) (h2 : H pd = some (.dK ys)) : PatAt H' p C al rows := by
  obtain ⟨dx, rt, ts, a, b, c⟩ := h.ex
  have go : ∀ {b : Addr} {u : HO}, H b = some u → (∀ zs, u ≠ .dK zs) → H' b = some u := fun {b u} e n => k b u (fun z => by rw [z, h1] at e; exact n _ (Option.some.inj e).symm) (fun z => by rw [z, h2] at e; exact n _ (Option.some.inj e).symm) e
  exact ⟨dx, rt, ts, go a (fun _ z => nomatch z), go b (fun _ z => nomatch z), Paired.mapP c fun _ _ z => go z (fun _ z => nomatch z)⟩
section
variable {H H' : Hp} {p dx td pd f1 f2 C CP : Addr} {al : List Nat} {room : Nat} {es : List Ent}
theorem BookAt.mono (h : BookAt H p dx td pd f1 f2 C CP al room es) (s : Same H H') : BookAt H' p dx td pd f1 f2 C CP al room es := by
  obtain ⟨kps, a, b⟩ := h.q
  exact ⟨s _ _ h.o, s _ _ h.t, ⟨kps, s _ _ a, Paired.mapP b fun kv e ⟨e1, q, rows, e2, e3, e4⟩ => ⟨e1, q, rows, e2, e3, e4.mono s⟩⟩, h.n, h.A, h.r, h.l, h.v⟩
end
theorem told_some_len {es : List Ent} {n t : List Nat} (h : (toldE es n).isSome = true) : (putE es n t).length = es.length := by rw [put_len, if_pos h]
theorem readP_len {al tx : List Nat} {rows : List Row} (h : readP al tx = some (.rows rows)) : tx.length ≤ 200 := by
  unfold readP at h
  split at h
  · cases h
  · omega
abbrev sBInit : Stmt := inClass (top 52) 0
theorem scBInit : FnScope ["self", "letters", "room"] ["self", "letters", "room"] (defScope sBInit) := ⟨rfl, rfl, rfl, by decide +kernel, rfl, by decide +kernel, by decide +kernel⟩
def spBInit (C CP : Addr) : Sp := fun vs H Q _ => ∃ (p dx : Addr) (al : List Nat) (room : Nat), vs = [.ref p, .str (S al), .int (room : Int)] ∧ H p = some (.ins C dx []) ∧ AlphOk al ∧ room ≤ 100 ∧
  ∀ H' td pd f1 f2, But p H H' → H td = none → H pd = none → BookAt H' p dx td pd f1 f2 C CP al room [] → Q .non H'
abbrev sBLen : Stmt := inClass (top 52) 4
theorem scBLen : FnScope ["self"] ["self"] (defScope sBLen) := ⟨rfl, rfl, rfl, by decide +kernel, rfl, by decide +kernel, by decide +kernel⟩
/-- the tables may be locked -/
def BookL (H : Hp) (p dx td pd f1 f2 C : Addr) (al : List Nat) (room : Nat) (es : List Ent) : Prop := H p = some (.ins C dx (bkf (.str (S al)) (.ref td) (.ref pd) (.ref f1) (.ref f2) (.int (room : Int)))) ∧ Rd H td (.dK (tkv es))
def spBLen (C : Addr) : Sp := fun vs H Q _ => ∃ (p dx td pd f1 f2 : Addr) (al : List Nat) (room : Nat) (es : List Ent), vs = [.ref p] ∧ BookL H p dx td pd f1 f2 C al room es ∧ Q (.int (es.length : Int)) H
abbrev sBIter : Stmt := inClass (top 52) 5
theorem scBIter : FnScope ["self"] ["self"] (defScope sBIter) := ⟨rfl, rfl, rfl, by decide +kernel, rfl, by decide +kernel, by decide +kernel⟩
abbrev sBIn : Stmt := inClass (top 52) 6
theorem scBIn : FnScope ["self", "name"] ["self", "name"] (defScope sBIn) := ⟨rfl, rfl, rfl, by decide +kernel, rfl, by decide +kernel, by decide +kernel⟩
def spBIn (C : Addr) : Sp := fun vs H Q _ => ∃ (p dx td pd f1 f2 : Addr) (al : List Nat) (room : Nat) (es : List Ent) (nm : List Nat), vs = [.ref p, .str (S nm)] ∧ BookL H p dx td pd f1 f2 C al room es ∧ Q (.bl (toldE es nm).isSome) H
abbrev sBSet : Stmt := inClass (top 52) 8
theorem scBSet : FnScope ["self", "name", "text", "pattern"] ["self", "name", "text"] (defScope sBSet) := ⟨rfl, rfl, rfl, by decide +kernel, rfl, by decide +kernel, by decide +kernel⟩
def spBSet (c : Nat → Addr) (C CP : Addr) : Sp := fun vs H Q E => ∃ (p dx td pd f1 f2 : Addr) (al : List Nat) (room : Nat) (es : List Ent) (nm tx : List Nat) (r : RR), vs = [.ref p, .str (S nm), .str (S tx)] ∧ BookAt H p dx td pd f1 f2 C CP al room es ∧ nm.length ≤ 1000 ∧ tx.length ≤ 1000 ∧ readP al tx = some r ∧
  (¬ NameOk nm → ErrF E (c 12) "name" (.str (S nm)) H) ∧ (NameOk nm → (∀ i, r = .text i → ErrF E (c 11) "index" (.int (i : Int)) H) ∧ (r = .long → ErrF E (c 15) "limit" (.int 200) H) ∧
    ∀ rows, r = .rows rows → (toldE es nm = none → es.length = room → ErrF E (c 15) "limit" (.int (room : Int)) H) ∧
      ((toldE es nm = none → es.length ≠ room) → ∀ H', KB td pd H H' → BookAt H' p dx td pd f1 f2 C CP al room (putE es nm tx) → Q .non H'))
abbrev sBDrop : Stmt := inClass (top 52) 11
theorem scBDrop : FnScope ["self", "name"] ["self", "name"] (defScope sBDrop) := ⟨rfl, rfl, rfl, by decide +kernel, rfl, by decide +kernel, by decide +kernel⟩
def spBDrop (c : Nat → Addr) (C CP : Addr) : Sp := fun vs H Q E => ∃ (p dx td pd f1 f2 : Addr) (al : List Nat) (room : Nat) (es : List Ent) (nm : List Nat), vs = [.ref p, .str (S nm)] ∧ BookAt H p dx td pd f1 f2 C CP al room es ∧
  (toldE es nm = none → ErrF E (c 12) "name" (.str (S nm)) H) ∧ ((toldE es nm).isSome = true → ∀ H', KB td pd H H' → BookAt H' p dx td pd f1 f2 C CP al room (dropE es nm) → Q .non H')
abbrev sBWritten : Stmt := inClass (top 52) 15
theorem scBWritten : FnScope ["self", "name"] ["self"] (defScope sBWritten) := ⟨rfl, rfl, rfl, by decide +kernel, rfl, by decide +kernel, by decide +kernel⟩
def lineE (e : Ent) : Str := S (e.1 ++ 61 :: e.2)
def spBWritten (C CP : Addr) : Sp := fun vs H Q _ => ∃ (p dx td pd f1 f2 : Addr) (al : List Nat) (room : Nat) (es : List Ent), vs = [.ref p] ∧ BookAt H p dx td pd f1 f2 C CP al room es ∧ ((es.map (·.1)).Nodup) ∧ ∀ H', Same H H' → Q (.str (Txt.join "\n" (es.map lineE))) H'
section
variable {P : Program} {w : World} {K : PySem.W.Frag} {mg : Str → Option Value} {base : Heap} {c : Nat → Addr} {fT fN fL : Addr}
theorem ok_binit {f C CP : Addr} {fd : FuncData} {dvs : List V} {kws : List (Str × V)} (F : FunD K "__init__" "Book.__init__" (defArgs sBInit) (defBody sBInit) (defScope sBInit) dvs kws f fd) (T : BkT K mg C) (ccheck_letters : Cal P w K mg base "check_letters" 1 ["letters"] spCheckL) (ccheck_room : Cal P w K mg base "check_room" 1 ["room", "least"] spRoomC) : FnOk P w K mg base CX0 2 f fd ["self", "letters", "room"] (spBInit C CP) := by
  refine F.ok (CX := CX0) scBInit (fun vs H Q E h => ?_) (fun cdv A outer s H vs Q E hr h => ?_)
  · obtain ⟨p, dx, al, room, rfl, _⟩ := h
    rfl
  obtain ⟨p, dx, al, room, rfl, hp, hA, hrm, q⟩ := h
  refine ⟨_, (pss_cons (ps_fld (pv 0) (pcall ccheck_letters hr (pa_cons (pv 1) pa_nil)) rfl)
    (pss_cons (ps_fld (pv 0) pe_dnewK rfl)
    (pss_cons (ps_fld (pv 0) pe_dnewK rfl)
    (pss_cons (ps_fld (pv 0) pe_dnewK rfl)
    (pss_cons (ps_fld (pv 0) pe_dnewK rfl)
    (pss_one (ps_fld (pv 0) (pcall ccheck_room hr (pa_cons (pv 2) (pa_cons pe_int pa_nil))) rfl))))))), ?_⟩
  refine ⟨_, rfl, al, rfl, hA, _, rfl, p, C, dx, _, rfl, hp, T.cl, T.nL, (by show 0 < 1000; decide), ?_⟩
  have b0 : But p H (upd H p (.ins C dx (putF "letters" (.str (S al)) []))) := But.upd
  have hp0 : upd H p (.ins C dx (putF "letters" (.str (S al)) [])) p = some (.ins C dx (putF "letters" (.str (S al)) [])) := upd_same
  generalize upd H p (.ins C dx (putF "letters" (.str (S al)) [])) = H0 at *
  have free : ∀ {H1 : Hp} {b : Addr}, But p H H1 → H1 p ≠ none → H1 b = none → H b = none := fun {H1 b} bt np hb => by
    cases hh : H b with
    | none => rfl
    | some o =>
      have : b ≠ p := fun z => by rw [z] at hb; exact np hb
      rw [bt b o this hh] at hb
      cases hb
  have step : ∀ (H1 : Hp) (fs : List (Str × V)) (nm : Str) (d : Addr), But p H H1 → H1 p = some (.ins C dx fs) → H1 d = none → (But p H (upd (upd H1 d (.dK [])) p (.ins C dx (putF nm (.ref d) fs)))) ∧ (upd (upd H1 d (.dK [])) p (.ins C dx (putF nm (.ref d) fs))) p = some (.ins C dx (putF nm (.ref d) fs)) ∧
      (upd H1 d (.dK [])) p = some (.ins C dx fs) ∧ (upd (upd H1 d (.dK [])) p (.ins C dx (putF nm (.ref d) fs))) d = some (.dK []) ∧ (∀ b o, b ≠ p → H1 b = some o → (upd (upd H1 d (.dK [])) p (.ins C dx (putF nm (.ref d) fs))) b = some o) ∧ H d = none := fun H1 fs nm d bt hp1 hd => by
    have nd : d ≠ p := Ne.symm (ne_of_none hp1 hd)
    refine ⟨bt.trans ((But.new hd _).trans But.upd), upd_same, by rw [upd_ne (Ne.symm nd)]; exact hp1, by rw [upd_ne nd, upd_same], fun b o hb e => ?_, free bt (by rw [hp1]; simp) hd⟩
    rw [upd_ne hb, upd_ne (fun z => by rw [z, hd] at e; cases e)]
    exact e
  refine fun td htd => ?_
  obtain ⟨b1, hp1, hq1, ht1, k1, ntd⟩ := step H0 _ "texts" td b0 hp0 htd
  refine ⟨_, rfl, p, C, dx, _, rfl, hq1, T.cl, T.nT, (by show 1 < 1000; decide), ?_⟩
  clear hq1 k1
  generalize upd (upd H0 td (.dK [])) p (.ins C dx (putF "texts" (.ref td) (putF "letters" (.str (S al)) []))) = H1 at *
  have nt : td ≠ p := ne_of ht1 hp1 (fun z => nomatch z)
  refine fun pd hpd => ?_
  obtain ⟨b2, hp2, hq2, ht2, k2, npd⟩ := step H1 _ "patterns" pd b1 hp1 hpd
  have n12 : td ≠ pd := ne_of_none ht1 hpd
  refine ⟨_, rfl, p, C, dx, _, rfl, hq2, T.cl, T.nP, (by show 2 < 1000; decide), ?_⟩
  have ht1 := k2 _ _ nt ht1
  clear hq2 k2
  generalize upd (upd H1 pd (.dK [])) p (.ins C dx (putF "patterns" (.ref pd) (putF "texts" (.ref td) (putF "letters" (.str (S al)) [])))) = H2 at *
  have np : pd ≠ p := ne_of ht2 hp2 (fun z => nomatch z)
  refine fun f1 hf1 => ?_
  obtain ⟨b3, hp3, hq3, ht3, k3, nf1⟩ := step H2 _ "former_texts" f1 b2 hp2 hf1
  refine ⟨_, rfl, p, C, dx, _, rfl, hq3, T.cl, T.nF, (by show 3 < 1000; decide), ?_⟩
  have ht1 := k3 _ _ nt ht1
  have ht2 := k3 _ _ np ht2
  clear hq3 k3
  generalize upd (upd H2 f1 (.dK [])) p (.ins C dx (putF "former_texts" (.ref f1) (putF "patterns" (.ref pd) (putF "texts" (.ref td) (putF "letters" (.str (S al)) []))))) = H3 at *
  refine fun f2 hf2 => ?_
  obtain ⟨b4, hp4, hq4, ht4, k4, nf2⟩ := step H3 _ "former_patterns" f2 b3 hp3 hf2
  refine ⟨_, rfl, p, C, dx, _, rfl, hq4, T.cl, T.nG, (by show 4 < 1000; decide), ?_⟩
  have ht1 := k4 _ _ nt ht1
  have ht2 := k4 _ _ np ht2
  clear hq4 k4
  generalize upd (upd H3 f2 (.dK [])) p (.ins C dx (putF "former_patterns" (.ref f2) (putF "former_texts" (.ref f1) (putF "patterns" (.ref pd) (putF "texts" (.ref td) (putF "letters" (.str (S al)) [])))))) = H4 at *
  refine ⟨_, rfl, room, 0, rfl, Nat.zero_le _, hrm, _, rfl, p, C, dx, _, rfl, hp4, T.cl, T.nR, (by show 5 < 1000; decide), ?_⟩
  refine q _ td pd f1 f2 (b4.trans But.upd) ntd npd ⟨?_, ?_, ⟨[], ?_, .nil⟩, n12, hA, hrm, Nat.zero_le _, fun e h => (by cases h)⟩
  · rw [upd_same]
    rfl
  · rw [upd_ne nt]; exact ht1
  · rw [upd_ne np]; exact ht2
end
end W8

set_option Elab.async false
set_option linter.all false
set_option maxRecDepth 100000
set_option maxHeartbeats 4000000
namespace W8
open PySem PySem.Spec PyProof.Rows L2 L2E
/-- len of a dict, locked or not -/
theorem call_lenR {X : Cx} : CallR X (.builtin "len") (fun xs H Q => ∃ a kvs, xs = [V.ref a] ∧ Rd H a (.dK kvs) ∧ Q (.int kvs.length) H) := by
  intro pins s σ H xs us Q I r h
  obtain ⟨a, kvs, rfl, ha, q⟩ := h
  obtain ⟨u, rfl, ru⟩ := vals1 r
  cases ru
  exact d_len I ha fun t s' I' => ⟨.int kvs.length, H, I', ⟨t, rfl⟩, q⟩
theorem tkv_len (es : List Ent) : (tkv es).length = es.length := by unfold tkv; rw [List.length_map]
theorem DGet.tkv {H : Hp} {td : Addr} {es : List Ent} {nm : List Nat} (h : Rd H td (.dK (tkv es))) : DGet H td (.str (S nm)) ((toldE es nm).map fun t => V.str (S t)) := .inl ⟨_, kN nm, h, rfl, (valV_tkv es nm).symm⟩
section
variable {P : Program} {w : World} {K : PySem.W.Frag} {mg : Str → Option Value} {base : Heap} {c : Nat → Addr} {fT fN fL : Addr}
theorem ok_blen {f C : Addr} {fd : FuncData} (F : Fun K "__len__" "Book.__len__" sBLen f fd) (T : BkT K mg C) : FnOk P w K mg base CX0 1 f fd ["self"] (spBLen C) := by
  refine F.ok scBLen (fun vs H Q E h => ?_) (fun cdv A outer s H vs Q E hr h => ?_)
  · obtain ⟨p, dx, td, pd, f1, f2, al, room, es, rfl, _⟩ := h
    rfl
  obtain ⟨p, dx, td, pd, f1, f2, al, room, es, rfl, ⟨ho, ht⟩, q⟩ := h
  refine ⟨_, (pss_one (ps_ret (pB1 call_lenR T.len (pe_fld (pv 0) rfl)))), ?_⟩
  refine ⟨_, rfl, p, C, dx, _, _, rfl, ho, T.cl, T.nT, bk_texts _ _ _ _ _ _, td, _, rfl, ht, ?_⟩
  rw [tkv_len]
  exact q
theorem ok_biter {f C : Addr} {fd : FuncData} (F : Fun K "__iter__" "Book.__iter__" sBIter f fd) (T : BkT K mg C) (ti : mg "iter" = none) : FnAt P w K mg base CX0 1 f fd ["self"] (spIterD C "texts") := by
  obtain ⟨oc, od, kV', doc, pm, an, cdv, ct, osl, rfl, lk, hcd⟩ := F.ex
  refine fn_at lk hcd scBIter (fun n vs H Q E h => ?_) (fun A outer s H vs Q E hr h => ?_)
  · obtain ⟨a, dx, fs, d, o, kvs, rfl, _⟩ := h
    rfl
  obtain ⟨a, dx, fs, d, o, kvs, rfl, ha, hf, hd, q⟩ := h
  refine ⟨_, (pss_one (ps_ret (pB1 call_iterD ti (pe_fld (pv 0) rfl)))), ?_⟩
  exact ⟨_, rfl, a, C, dx, fs, _, rfl, ha, T.cl, T.nT, hf, d, o, kvs, rfl, hd, q⟩
theorem ok_bin {f C : Addr} {fd : FuncData} (F : Fun K "__contains__" "Book.__contains__" sBIn f fd) (T : BkT K mg C) : FnOk P w K mg base CX0 1 f fd ["self", "name"] (spBIn C) := by
  refine F.ok scBIn (fun vs H Q E h => ?_) (fun cdv A outer s H vs Q E hr h => ?_)
  · obtain ⟨p, dx, td, pd, f1, f2, al, room, es, nm, rfl, _⟩ := h
    rfl
  obtain ⟨p, dx, td, pd, f1, f2, al, room, es, nm, rfl, ⟨ho, ht⟩, q⟩ := h
  have hu := hr.units
  refine ⟨_, (pss_one (ps_ret (pe_cmp (pc_din (Nat.lt_of_le_of_lt (Nat.add_le_add_left (by decide) _) hu) (pv 1) (pe_fld (pv 0) rfl))))), ?_⟩
  refine ⟨_, rfl, _, rfl, p, C, dx, _, _, rfl, ho, T.cl, T.nT, bk_texts _ _ _ _ _ _, td, _, rfl, DGet.tkv ht, ?_⟩
  rw [Option.isSome_map]
  exact q
theorem ok_bset {f C CP : Addr} {fd : FuncData} (F : Fun K "__setitem__" "Book.__setitem__" sBSet f fd) (T : BkT K mg C) (X : BkE P K mg c fT fN fL) (cname : CalX P w K mg base "check_name" 3 ["name"] (spName c)) (cread : CalX P w K mg base "read_pattern" 7 ["text", "letters"] (spRead c CP)) :
    FnOk P w K mg base (L2N.CX P w) 8 f fd ["self", "name", "text"] (spBSet c C CP) := by
  refine okN F scBSet (fun vs H Q E h => ?_) (fun cdv A outer s H vs Q E hr h => ?_)
  · obtain ⟨p, dx, td, pd, f1, f2, al, room, es, nm, tx, r, rfl, _⟩ := h
    rfl
  obtain ⟨p, dx, td, pd, f1, f2, al, room, es, nm, tx, r, rfl, G, hn, ht, hrd, eN, q⟩ := h
  have hu := Nat.lt_of_le_of_lt (Nat.add_le_add_left (show 1 ≤ 64 by decide) _) hr.units
  refine ⟨_, (pss_cons (ps_expr (pcallX (E := E) cname hr (L2N.passes_call (L2N.takes_of rfl rfl rfl rfl) (fun _ _ _ _ h => h)) (pa_cons (pv 1) pa_nil)))
    (pss_cons (ps_set (i := 3) scBSet.nd rfl (Or.inl rfl) (pcallX (E := E) cread hr (L2N.passes_call (L2N.takes_of rfl rfl rfl rfl) (fun _ _ _ _ h => h)) (pa_cons (pv 2) (pa_cons (pe_fld (pv 0) rfl) pa_nil))))
    (pss_cons (ps_if (PW.pt (pw_and (pt_cmp (pc_dnotin hu (pv 1) (pe_fld (pv 0) rfl))) (pw_and1 (pt_cmpR op_eq (pB1 call_lenR T.len (pe_fld (pv 0) rfl)) (pe_fld (pv 0) rfl) (nomark _)))))
      (pss_one (L2N.ps_raise rfl (L2N.takes_of rfl rfl rfl rfl) (L2N.pmk_xm X.l hr X.mL X.sup (pa_cons (pe_fld (pv 0) rfl) pa_nil))))
      pss_nil)
    (pss_cons (ps_dput hu (pe_fld (pv 0) rfl) (pv 1) (pv 2) rfl)
    (pss_one (ps_dput hu (pe_fld (pv 0) rfl) (pv 1) (pv 3) rfl)))))), ?_⟩
  refine ⟨_, rfl, nm, rfl, hn, fun hok => ?_, eN⟩
  obtain ⟨eT, eL, q⟩ := q hok
  refine ⟨_, rfl, _, rfl, p, C, dx, _, _, rfl, G.o, T.cl, T.nL, bk_letters _ _ _ _ _ _, tx, al, r, rfl, G.A, ht, hrd, fun rows hr' pp H1 s1 hpp PA => ?_, eT, eL⟩
  subst hr'
  obtain ⟨eR, q⟩ := q rows rfl
  have G1 := G.mono s1
  obtain ⟨kps, hk, hk2⟩ := G1.q
  refine ⟨_, rfl, _, rfl, p, C, dx, _, _, rfl, G1.o, T.cl, T.nT, bk_texts _ _ _ _ _ _, td, _, rfl, DGet.tkv (.inl G1.t), _, rfl, ?_⟩
  rw [Option.isSome_map]
  have fin : (toldE es nm = none → es.length ≠ room) → sDPut (tFld K (tVar 0) "texts") (tVar 1) (tVar 2) { nx := sDPut (tFld K (tVar 0) "patterns") (tVar 1) (tVar 3) { nx := fun _ H' => Q .non H', rt := Q }, rt := Q } [some (.ref p), some (.str (S nm)), some (.str (S tx)), some (.ref pp)] H1 := fun hroom => by
    have hlen : (putE es nm tx).length ≤ room := by
      rw [put_len]
      have := G.l
      split
      · exact this
      · rename_i h9
        have := hroom (by cases hh : toldE es nm with | none => rfl | some _ => rw [hh] at h9; exact absurd rfl h9)
        omega
    have hl1 : (tkv es).length < sizeLine := by rw [tkv_len]; exact small_lt (by have := G.l; have := G.r; omega)
    have hl2 : kps.length < sizeLine := by rw [Paired.length hk2]; exact small_lt (by have := G.l; have := G.r; omega)
    refine ⟨_, rfl, _, rfl, p, C, dx, _, _, rfl, G1.o, T.cl, T.nT, bk_texts _ _ _ _ _ _, _, rfl, td, _, rfl, DPut.k (k := kN nm) G1.t hl1, ?_⟩
    rw [tkv_put]
    have npt : p ≠ td := ne_of G1.o G1.t (fun z => nomatch z)
    have npp : p ≠ pd := ne_of G1.o hk (fun z => nomatch z)
    refine ⟨_, rfl, _, rfl, p, C, dx, _, _, rfl, by rw [upd_ne npt]; exact G1.o, T.cl, T.nP, bk_patterns _ _ _ _ _ _, _, rfl, pd, _, rfl, DPut.k (k := kN nm) (by rw [upd_ne (Ne.symm G1.n)]; exact hk) hl2, ?_⟩
    have kb : KB td pd H1 (upd (upd H1 td (.dK (tkv (putE es nm tx)))) pd (.dK (putK kps (kN nm) (.ref pp)))) := fun b o h1 h2 e => by rw [upd_ne h2, upd_ne h1]; exact e
    refine q hroom _ ((KB.of s1).trans kb) ⟨by rw [upd_ne npp, upd_ne npt]; exact G1.o, by rw [upd_ne G1.n, upd_same], ⟨_, upd_same, ?_⟩, G.n, G.A, G.r, hlen, fun e he => ?_⟩
    · refine put_R PatE.key ⟨rfl, pp, rows, rfl, hrd, PA.kb kb G1.t hk⟩ (Paired.mapP hk2 fun kv e ⟨e1, q1, rows1, e2, e3, e4⟩ => ⟨e1, q1, rows1, e2, e3, e4.kb kb G1.t hk⟩)
    · rcases put_mem he with z | rfl
      · exact G.v e z
      · exact ⟨hok, readP_len hrd⟩
  refine ite2 (fun h1 => ?_) (fun h1 => ?_)
  · have hnone : toldE es nm = none := by
      cases hh : toldE es nm with
      | none => rfl
      | some _ => rw [hh] at h1; cases h1
    refine ⟨_, rfl, p, C, dx, _, _, rfl, G1.o, T.cl, T.nT, bk_texts _ _ _ _ _ _, td, _, rfl, .inl G1.t, _, rfl, p, C, dx, _, _, rfl, G1.o, T.cl, T.nR, bk_room _ _ _ _ _ _, rfl, _, rfl, ?_⟩
    rw [tkv_len]
    refine ite2 (fun h2 => ?_) (fun h2 => ?_)
    · have e8 : V.int (es.length : Int) = V.int (room : Int) := of_decide_eq_true h2
      have e9 : es.length = room := by
        have : (es.length : Int) = (room : Int) := by injection e8
        omega
      exact ⟨_, rfl, p, C, dx, _, _, rfl, G1.o, T.cl, T.nR, bk_room _ _ _ _ _ _, _, rfl, fun d hd => (eR hnone e9).go s1 hd⟩
    · exact fin fun _ e9 => h2 (by rw [e9]; exact decide_eq_true rfl)
  · refine ite2 (fun z => (by cases z)) (fun _ => ?_)
    exact fin fun hnone => absurd (by rw [hnone]; rfl) h1
theorem ok_bdrop {f C CP : Addr} {fd : FuncData} (F : Fun K "drop" "Book.drop" sBDrop f fd) (T : BkT K mg C) (X : BkE P K mg c fT fN fL) : FnOk P w K mg base (L2N.CX P w) 3 f fd ["self", "name"] (spBDrop c C CP) := by
  refine okN F scBDrop (fun vs H Q E h => ?_) (fun cdv A outer s H vs Q E hr h => ?_)
  · obtain ⟨p, dx, td, pd, f1, f2, al, room, es, nm, rfl, _⟩ := h
    rfl
  obtain ⟨p, dx, td, pd, f1, f2, al, room, es, nm, rfl, G, eN, q⟩ := h
  have hu := Nat.lt_of_le_of_lt (Nat.add_le_add_left (show 1 ≤ 64 by decide) _) hr.units
  refine ⟨_, (pss_cons (ps_if (pt_cmp (pc_dnotin hu (pv 1) (pe_fld (pv 0) rfl)))
      (pss_one (L2N.ps_raise rfl (L2N.takes_of rfl rfl rfl rfl) (L2N.pmk_xm X.n hr X.mN X.sup (pa_cons (pv 1) pa_nil))))
      pss_nil)
    (pss_cons (ps_ddel (pe_fld (pv 0) rfl) (pv 1))
    (pss_one (ps_ddel (pe_fld (pv 0) rfl) (pv 1))))), ?_⟩
  obtain ⟨kps, hk, hk2⟩ := G.q
  refine ⟨_, rfl, _, rfl, p, C, dx, _, _, rfl, G.o, T.cl, T.nT, bk_texts _ _ _ _ _ _, td, _, rfl, DGet.tkv (.inl G.t), _, rfl, ?_⟩
  rw [Option.isSome_map]
  refine ite2 (fun h1 => ?_) (fun h1 => ?_)
  · have hnone : toldE es nm = none := by
      cases hh : toldE es nm with
      | none => rfl
      | some _ => rw [hh] at h1; cases h1
    exact ⟨_, rfl, _, rfl, fun d hd => (eN hnone).go (Same.refl H) hd⟩
  have hsome : (toldE es nm).isSome = true := by
    cases hh : toldE es nm with
    | none => rw [hh] at h1; exact absurd rfl h1
    | some _ => rfl
  have npt : p ≠ td := ne_of G.o G.t (fun z => nomatch z)
  have npp : p ≠ pd := ne_of G.o hk (fun z => nomatch z)
  refine ⟨_, rfl, p, C, dx, _, _, rfl, G.o, T.cl, T.nT, bk_texts _ _ _ _ _ _, _, rfl, td, _, kN nm, rfl, G.t, rfl, by rw [valV_tkv, Option.isSome_map]; exact hsome, ?_⟩
  rw [tkv_drop]
  refine ⟨_, rfl, p, C, dx, _, _, rfl, by rw [upd_ne npt]; exact G.o, T.cl, T.nP, bk_patterns _ _ _ _ _ _, _, rfl, pd, _, kN nm, rfl, by rw [upd_ne (Ne.symm G.n)]; exact hk, rfl, by rw [valV_R PatE.key nm hk2]; exact hsome, ?_⟩
  have kb : KB td pd H (upd (upd H td (.dK (tkv (dropE es nm)))) pd (.dK (dropK kps (kN nm)))) := fun b o h1 h2 e => by rw [upd_ne h2, upd_ne h1]; exact e
  refine q hsome _ kb ⟨by rw [upd_ne npp, upd_ne npt]; exact G.o, by rw [upd_ne G.n, upd_same], ⟨_, upd_same, ?_⟩, G.n, G.A, G.r, Nat.le_trans (List.length_filter_le _ _) G.l, fun e he => G.v e (List.mem_filter.mp he).1⟩
  exact drop_R PatE.key nm (Paired.mapP hk2 fun kv e ⟨e1, q1, rows1, e2, e3, e4⟩ => ⟨e1, q1, rows1, e2, e3, e4.kb kb G.t hk⟩)
end
end W8

set_option Elab.async false
set_option linter.all false
set_option maxRecDepth 100000
set_option maxHeartbeats 4000000
namespace W8
open PySem PySem.Spec PyProof.Rows L2 L2E
/-- an f-string of several parts -/
def tJd (ts : List TE) : TE := fun σ H Q => tJs ts Str.empty σ H fun out H1 => Q (.str out) H1
theorem pe_jd {X : Cx} {v1 v2 : Expr} {rest : List Expr} {ts : List TE} {pos : Pos} (h : PJ X (v1 :: v2 :: rest) ts) : PE X (.JoinedStr (v1 :: v2 :: rest) pos) (tJd ts) := pe_joined h
theorem c61 : ("=" : Str) = S [61] := by decide +kernel
theorem told_get : ∀ {es : List Ent} {i : Nat} {e : Ent}, (es.map (·.1)).Nodup → es[i]? = some e → toldE es e.1 = some e.2
  | [], _, _, _, h => by cases h
  | d :: es, 0, e, _, h => by
    cases h
    rw [told_cons, if_pos rfl]
  | d :: es, i + 1, e, nd, h => by
    have h' : es[i]? = some e := by simpa using h
    rw [List.map_cons, List.nodup_cons] at nd
    have ne : ¬ d.1 = e.1 := fun z => nd.1 (by rw [z]; exact List.mem_map.mpr ⟨e, List.mem_of_getElem? h', rfl⟩)
    rw [told_cons, if_neg ne]
    exact told_get nd.2 h'
theorem emp_app (z : List Nat) : (Str.empty ++ S z : Str) = S z := by
  show (S [] ++ S z : Str) = _
  rw [S_app]
  rfl
theorem line_len {e : Ent} (h1 : e.1.length ≤ 12) (h2 : e.2.length ≤ 200) : (lineE e).length ≤ 213 := by
  show (e.1 ++ 61 :: e.2).length ≤ 213
  rw [List.length_append, List.length_cons]
  omega
theorem sum_le {xs : List Nat} {n : Nat} (h : ∀ x ∈ xs, x ≤ n) : xs.sum ≤ xs.length * n := by
  induction xs with
  | nil => exact Nat.zero_le _
  | cons x xs ih =>
    rw [List.sum_cons, List.length_cons, Nat.succ_mul]
    have := h x List.mem_cons_self
    have := ih fun y hy => h y (List.mem_cons_of_mem _ hy)
    omega
section
variable {P : Program} {w : World} {K : PySem.W.Frag} {mg : Str → Option Value} {base : Heap} {c : Nat → Addr} {fT fN fL : Addr}
theorem ok_bwritten {f C CP : Addr} {fd : FuncData} (F : Fun K "written" "Book.written" sBWritten f fd) (T : BkT K mg C) : FnOk P w K mg base CX0 1 f fd ["self"] (spBWritten C CP) := by
  refine F.ok scBWritten (fun vs H Q E h => ?_) (fun cdv A outer s H vs Q E hr h => ?_)
  · obtain ⟨p, dx, td, pd, f1, f2, al, room, es, rfl, _⟩ := h
    rfl
  obtain ⟨p, dx, td, pd, f1, f2, al, room, es, rfl, G, nd, q⟩ := h
  have hu := Nat.lt_of_le_of_lt (Nat.add_le_add_left (show 1 ≤ 64 by decide) _) hr.units
  refine ⟨_, (pss_one (ps_ret (pe_lock (pe_join pe_str (pe_lc (own := [("name", 1)]) (g := gName 1) (tt := tYes) rfl scBWritten.nd (pi_keys (pe_fld (pv 0) rfl)) (blkOk_by (own := [("name", 1)]) (N := ["self", "name"]) (sc := defScope sBWritten) (by decide +kernel)) (fun _ _ _ _ _ => (pg_name (i := 1) scBWritten.nd rfl (Or.inl rfl))) (fun _ _ _ _ _ => pts_nil) (fun _ _ _ _ _ => pe_jd (ts := [tFmt (tVar 1), tC (.str "="), tFmt (tDGet (tFld K (tVar 0) "texts") (tVar 1))]) (.cons (pe_fmt (pv 1)) (.cons pe_str (.cons (pe_fmt (pe_dget (by exact hu) (pe_fld (pv 0) (by rfl)) (pv 1) (fun _ _ => rfl))) .nil))))))))), ?_⟩
  have npt : p ≠ td := ne_of G.o G.t (fun z => nomatch z)
  refine ⟨td, _, G.t, trivial, fun od => ?_⟩
  have hp0 : upd H td (.frz od (.dK (tkv es))) p = some (.ins C dx (bkf (.str (S al)) (.ref td) (.ref pd) (.ref f1) (.ref f2) (.int (room : Int)))) := by rw [upd_ne npt]; exact G.o
  have ht0 : upd H td (.frz od (.dK (tkv es))) td = some (.frz od (.dK (tkv es))) := upd_same
  generalize hH0 : upd H td (.frz od (.dK (tkv es))) = H0 at *
  refine ⟨⟨_, rfl⟩, _, rfl, p, C, dx, _, _, rfl, hp0, T.cl, T.nT, bk_texts _ _ _ _ _ _, td, od, rfl, .inl ⟨_, ht0, fun L hL => ?_⟩⟩
  have l100 : es.length ≤ 100 := Nat.le_trans G.l G.r
  refine L2.lc_it L2.walk_keys (fun i H' => Same H0 H' ∧ H' L = some (.lst ((es.take i).map fun e => V.str (lineE e)))) ⟨same_new hL _, upd_same⟩ (fun _ _ _ ⟨s, _⟩ => s _ _ ht0) ?_ ?_
  · rintro i x H1 H2 hi ⟨s1, hL1⟩ ⟨rfl, k, v, hk, rfl⟩
    unfold tkv at hk
    rw [List.getElem?_map] at hk
    cases he : es[i]? with
    | none => rw [he] at hk; cases hk
    | some e =>
      rw [he] at hk
      cases hk
      obtain ⟨hn, h200⟩ := G.v e (List.mem_of_getElem? he)
      have hn12 := hn.n12
      refine ⟨rfl, _, rfl, .inl ⟨S e.1, rfl, by rw [S_len]; exact sz (by omega), S e.1, rfl, ?_, ?_⟩⟩
      · rw [emp_app, S_len]; exact sz (by omega)
      rw [emp_app]
      refine ⟨_, rfl, ?_, ?_⟩
      · rw [c61, S_app, S_len, List.length_append]; exact sz (by show _ + 1 ≤ _; omega)
      rw [c61, S_app]
      have hg : DGet H2 td (.str (S e.1)) (some (V.str (S e.2))) := by
        have := DGet.tkv (es := es) (nm := e.1) (.inr ⟨od, s1 _ _ ht0⟩)
        rw [told_get nd he] at this
        exact this
      refine ⟨_, rfl, p, C, dx, _, _, rfl, s1 _ _ hp0, T.cl, T.nT, bk_texts _ _ _ _ _ _, _, rfl, td, _, rfl, hg, .inl ⟨S e.2, rfl, by rw [S_len]; exact sz (by omega), S e.2, rfl, ?_, ?_⟩⟩
      · rw [S_app, S_len, List.length_append, List.length_append]; exact sz (by show _ + 1 + _ ≤ _; omega)
      refine ⟨_, hL1, small_lt (by rw [List.length_map, List.length_take]; omega), same_upd s1 hL, ?_⟩
      rw [upd_same, List.take_add_one, he, List.map_append, S_app]
      show some (HO.lst (_ ++ [V.str (S ((e.1 ++ [61]) ++ e.2))])) = some (HO.lst (_ ++ [V.str (S (e.1 ++ 61 :: e.2))]))
      rw [List.append_assoc]
      rfl
  · rintro H1 ⟨s1, hL1⟩
    rw [tkv_len, List.take_length] at hL1
    have e9 : (es.map fun e => V.str (lineE e)) = (es.map lineE).map V.str := by rw [List.map_map]; rfl
    rw [e9] at hL1
    refine ⟨_, L, es.map lineE, rfl, rfl, .inl (SqL.of hL1), ?_, s1 _ _ ht0, q _ fun b o e => ?_⟩
    · have h1 := sum_le (xs := (es.map lineE).map (·.length)) (n := 213) fun x hx => by
        obtain ⟨z, hz, rfl⟩ := List.mem_map.mp hx
        obtain ⟨d, hd, rfl⟩ := List.mem_map.mp hz
        exact line_len (G.v d hd).1.n12 (G.v d hd).2
      rw [List.length_map, List.length_map] at h1
      rw [List.length_map]
      show _ + es.length * 1 ≤ _
      omega
    · by_cases hb : b = td
      · rw [hb, upd_same, ← G.t, ← hb]
        exact e
      · rw [upd_ne hb]
        exact s1 b o (by rw [← hH0, upd_ne hb]; exact e)
end
end W8

set_option Elab.async false
set_option linter.all false
set_option maxRecDepth 100000
set_option maxHeartbeats 4000000
namespace L2N
open PySem PySem.Spec PyProof.Rows L2
def noW : WX := fun _ _ _ _ => False
theorem takes_no {X : Cx} : Takes X noW := fun u s' ⟨a, B, sI, pins, σ, H, cls, d, e, I, nb, up, sky, na, os, ag, w⟩ => False.elim w
end L2N
namespace W8
open PySem PySem.Spec PyProof.Rows L2 L2E
abbrev Uniq (es : List Ent) : Prop := (es.map (·.1)).Nodup
theorem told_in {es : List Ent} {e : Ent} (h : e ∈ es) : (toldE es e.1).isSome = true := by
  rw [← told_any]
  exact List.any_eq_true.mpr ⟨e, h, decide_eq_true rfl⟩
theorem told_none {es : List Ent} {n : List Nat} (h : toldE es n = none) : n ∉ es.map (·.1) := fun m => by
  obtain ⟨e, he, rfl⟩ := List.mem_map.mp m
  have := told_in he
  rw [h] at this
  cases this
theorem told_not {es : List Ent} {n : List Nat} (h : n ∉ es.map (·.1)) : toldE es n = none := by
  cases hh : toldE es n with
  | none => rfl
  | some t => exact absurd (List.mem_map.mpr ⟨_, told_mem hh, rfl⟩) h
theorem put_new {es : List Ent} {n t : List Nat} (h : toldE es n = none) : putE es n t = es ++ [(n, t)] := by
  unfold putE
  rw [told_any, h, if_neg (by simp)]
structure BkM (P : Program) (w : World) (K : PySem.W.Frag) (mg : Str → Option Value) (base : Heap) (c : Nat → Addr) (C CP : Addr) : Prop where
  it : ∃ f fd, FnAt P w K mg base CX0 1 f fd ["self"] (spIterD C "texts") ∧ Meth K C "__iter__" f ∧ Binds K fd ["self"] []
  len : MCal P w K mg base C "__len__" 1 ["self"] (spBLen C)
  in_ : MCal P w K mg base C "__contains__" 1 ["self", "name"] (spBIn C)
  set : MCalX P w K mg base C "__setitem__" 8 ["self", "name", "text"] (spBSet c C CP)
  nsq : PySem.W.noSeq K C = true
  new : MkCal P w K mg base C 2 ["self", "letters", "room"] (spBInit C CP)
/-- a book, wherever its parts are -/
def BookE (H : Hp) (p C CP : Addr) (al : List Nat) (room : Nat) (es : List Ent) : Prop := ∃ dx td pd f1 f2, BookAt H p dx td pd f1 f2 C CP al room es
theorem BookE.mono {H H' : Hp} {p C CP : Addr} {al : List Nat} {room : Nat} {es : List Ent} (h : BookE H p C CP al room es) (s : Same H H') : BookE H' p C CP al room es := by
  obtain ⟨dx, td, pd, f1, f2, G⟩ := h
  exact ⟨dx, td, pd, f1, f2, G.mono s⟩
/-- a book that is new, and whose tables are new -/
def BookN (H0 H : Hp) (p C CP : Addr) (al : List Nat) (room : Nat) (es : List Ent) : Prop := ∃ dx td pd f1 f2, BookAt H p dx td pd f1 f2 C CP al room es ∧ H0 p = none ∧ H0 td = none ∧ H0 pd = none
theorem BookAt.read {H : Hp} {p dx td pd f1 f2 C CP : Addr} {al : List Nat} {room : Nat} {es : List Ent} (G : BookAt H p dx td pd f1 f2 C CP al room es) {n t : List Nat} (h : toldE es n = some t) : NameOk n ∧ ∃ rows, readP al t = some (.rows rows) := by
  have hm := told_mem h
  refine ⟨(G.v _ hm).1, ?_⟩
  obtain ⟨kps, _, hk⟩ := G.q
  obtain ⟨i, hi⟩ := List.getElem?_of_mem hm
  have go : ∀ {ks : List (Key × V)} {es : List Ent} {i : Nat}, Paired (PatE H CP al) ks es → es[i]? = some (n, t) → ∃ rows, readP al t = some (.rows rows) := fun {ks} {es} {i} pr h => by
    induction pr generalizing i with
    | nil => cases h
    | cons a b ih =>
      cases i with
      | zero =>
        cases h
        obtain ⟨_, q, rows, _, h2, _⟩ := a
        exact ⟨rows, h2⟩
      | succ j => exact ih (by simpa using h)
  exact go hk hi
theorem lock_same {H H' : Hp} {d : Addr} {u fz : HO} (hd : H d = some u) (s : Same (upd H d fz) H') : Same H (upd H' d u) := fun b o e => by
  by_cases hb : b = d
  · rw [hb, upd_same, ← hd, ← hb]
    exact e
  · rw [upd_ne hb]
    exact s b o (by rw [upd_ne hb]; exact e)
def sgs (ns : List (List Nat)) : List V := ns.map fun n => V.str (S n)
theorem sgs_app (a b : List (List Nat)) : sgs (a ++ b) = sgs a ++ sgs b := List.map_append
theorem tkv_get {es : List Ent} {i : Nat} {k : Key} {v : V} (h : (tkv es)[i]? = some (k, v)) : ∃ e, es[i]? = some e ∧ k = kN e.1 ∧ v = .str (S e.2) := by
  unfold tkv at h
  rw [List.getElem?_map] at h
  cases he : es[i]? with
  | none => rw [he] at h; cases h
  | some e => rw [he] at h; cases h; exact ⟨e, rfl, rfl, rfl⟩
def prow (e : Ent) : Row := [.str (S e.1), .str (S e.2)]
def Prs (H : Hp) (l : Addr) (es : List Ent) : Prop := ∃ ts : List Addr, H l = some (.lst (ts.map V.ref)) ∧ Paired (fun (t : Addr) (e : Ent) => H t = some (.tup (prow e))) ts es
theorem Prs.mono {H H' : Hp} {l : Addr} {es : List Ent} (h : Prs H l es) (s : Same H H') : Prs H' l es := by
  obtain ⟨ts, a, b⟩ := h
  exact ⟨ts, s _ _ a, Paired.mapP b fun _ _ z => s _ _ z⟩
theorem prs_get {H : Hp} {ts : List Addr} {es : List Ent} {i : Nat} {x : V} (h : Paired (fun (t : Addr) (e : Ent) => H t = some (.tup (prow e))) ts es) (hx : (ts.map V.ref)[i]? = some x) : ∃ t e, x = .ref t ∧ ts[i]? = some t ∧ es[i]? = some e ∧ H t = some (.tup (prow e)) := by
  rw [List.getElem?_map] at hx
  cases ht : ts[i]? with
  | none => rw [ht] at hx; cases hx
  | some t =>
    rw [ht] at hx
    cases hx
    obtain ⟨e, he, hat⟩ := L2.paired_get h ht
    exact ⟨t, e, rfl, rfl, he, hat⟩
theorem at1 (x y : V) (xs : List V) : atI (x :: y :: xs) 1 = some y := by
  unfold atI ixN
  rw [if_pos (by omega), if_pos (by rw [List.length_cons, List.length_cons]; omega)]
  rfl
def rAddS : R2 := fun x y H Q => ∃ i j, x = .str i ∧ y = .str j ∧ i.length + j.length ≤ sizeLine ∧ Q (.str (i ++ j)) H
theorem op_addS {X : Cx} : OpR X (binaryOp .Add) rAddS := op_add_str
/-- pair[0], pair[1] of the i-th name, within a comprehension too -/
abbrev tIx (K : PySem.W.Frag) (i : Nat) (j : Int) : TE := tOp (rIxT K) (tVar i) (tC (.int j))
/-- names and texts that a book takes -/
structure EntsOk (al : List Nat) (es : List Ent) : Prop where
  u : Uniq es
  v : ∀ e ∈ es, NameOk e.1 ∧ ∃ rows, readP al e.2 = some (.rows rows)
def rIntB : List V → Hp → VK → Prop := fun xs H Q => ∃ k, xs = [.bl k] ∧ Q (.int (if k = true then 1 else 0)) H
theorem cr_intB {X : Cx} : CallR X (.type "int") rIntB := fun pins s σ H xs us Q I r h => call_int1 pins s σ H xs us Q I r (.inr h)
theorem StOk.mono {K : PySem.W.Frag} {H H' : Hp} {a p : Addr} (h : StOk K H a p) (s : Same H H') : StOk K H' a p := by
  obtain ⟨cs, i, v, l, m, S⟩ := h
  exact ⟨cs, i, v, l, m, s _ _ S.h, s _ _ S.c, S.ne, S.b, S.n, S.i0, S.v0, S.m0⟩
theorem StOk.at_ {K : PySem.W.Frag} {H : Hp} {a p : Addr} (h : StOk K H a p) : ∃ i v l m, H a = some (.lst (stL p i v l m)) := by
  obtain ⟨cs, i, v, l, m, S⟩ := h
  exact ⟨i, v, l, m, S.h⟩
theorem prs_snoc {H : Hp} {ts : List Addr} {es : List Ent} {t : Addr} {e : Ent} (h : Paired (fun (t : Addr) (e : Ent) => H t = some (.tup (prow e))) ts es) (h2 : H t = some (.tup (prow e))) : Paired (fun (t : Addr) (e : Ent) => H t = some (.tup (prow e))) (ts ++ [t]) (es ++ [e]) := paired_snoc h h2
/-- _law_classes, by its name -/
structure CalE (P : Program) (w : World) (K : PySem.W.Frag) (mg : Str → Option Value) (base : Heap) (c : Nat → Addr) : Prop where
  ex : ∃ (f : Addr) (fd : FuncData), FnE P w K mg base 1 f fd ["e"] (spClasses K c) ∧ mg "_law_classes" = some (.ref f) ∧ PySem.W.keepIn K (.ref f) = true ∧ Binds K fd ["e"] []
/-- what the class c k tells -/
structure TellC (K : PySem.W.Frag) (c : Nat → Addr) (k : Nat) (names : List Str) : Prop where
  exc : ExcC K (c k)
  is : ∃ bs, IsOf K c (c k) bs ∧ pick clsNames bs = names
  xf : XfC K (c k)
/-- a new list of these is handed back -/
def Told (Q : VK) (H : Hp) (xs : List V) : Prop := ∀ l H', Same H H' → H' l = some (.lst xs) → Q (.ref l) H'
theorem Told.mono {Q : VK} {H H1 : Hp} {xs : List V} (h : Told Q H xs) (s : Same H H1) : Told Q H1 xs := fun l H' s' e => h l H' (s.trans s') e
/-- isinstance(e, c), e the exception that is handled, whatever its class -/
def rIsC (K : PySem.W.Frag) (a : Addr) (cls : Value) (d : Option Addr) : List V → Hp → VK → Prop := fun xs H Q => ∃ (D : Addr) (c : V) (cv : Value) (b : Bool), cls = .ref D ∧ ExcC K D ∧ xs = [.ref a, c] ∧ (∀ u, RelV c u → u = cv) ∧ PySem.W.kitOne K (.ref D) cv = some b ∧ (∀ dd, d = some dd → ∃ fs, H dd = some (.xd fs)) ∧ Q (.bl b) H
theorem call_isXC {X : Cx} {cls : Value} {d : Option Addr} {a : Addr} {oe : Obj} (hz : Zc cls d oe) (hf : ∃ vs, oe.data = .fields vs) (hp : (a, oe) ∈ X.pn) : CallR X (.builtin "isinstance") (rIsC X.K a cls d) := by
  intro pins s σ H xs us Q I r h
  obtain ⟨D, c, cv, b, rfl, hC, e1, e2, e3, e4, q⟩ := h
  exact call_isX (p := (a, oe)) hC hz hf hp pins s σ H xs us Q I r ⟨c, cv, b, e1, e2, e3, e4, q⟩
theorem BookN.mono {H0 H H' : Hp} {p C CP : Addr} {al : List Nat} {room : Nat} {es : List Ent} (h : BookN H0 H p C CP al room es) (s : Same H H') : BookN H0 H' p C CP al room es := by
  obtain ⟨dx, td, pd, f1, f2, B, n⟩ := h
  exact ⟨dx, td, pd, f1, f2, B.mono s, n⟩
section
variable {K : PySem.W.Frag}
theorem sgs_len (ns : List (List Nat)) : (sgs ns).length = ns.length := by unfold sgs; rw [List.length_map]
theorem dp_sgs {H : Hp} : ∀ ns : List (List Nat), DpAll K H (sgs ns) (ns.map fun n => PyData.str (S n))
  | [] => .nil
  | n :: ns => .cons (.str _) (dp_sgs ns)
/-- what isinstance(x, Book) asks -/
structure BkI (K : PySem.W.Frag) (mg : Str → Option Value) (C p g : Addr) : Prop where
  ha : PySem.W.findIn K (.ref C) "__class__" = some (some (.builtin "object.__class__"))
  hn : PySem.W.specialIn K (.builtin "object.__class__") "__get__" = some (some (.builtin "getset_descriptor.__get__"))
  htk : PySem.W.takesIn K (.builtin "object.__class__") = some true
  hm : PySem.W.mroIn K C (.type "object") = some true
  kt : PySem.W.kitOne K (.ref C) (.ref C) = some true
  rm : PropOf K C "room" p g
end
structure MkCalD (P : Program) (w : World) (K : PySem.W.Frag) (mg : Str → Option Value) (base : Heap) (C : Addr) (k : Nat) (ps : List Str) (sp : Sp) (dvs : List V) : Prop where
  ex : ∃ (f : Addr) (fd : FuncData) (ds : List Value), FnOk P w K mg base CX0 k f fd ps sp ∧ Mk K C f ∧ Binds K fd ps ds ∧ Vals dvs ds
theorem cut_take (xs : List V) (n : Nat) : cutV xs none (some (n : Int)) = xs.take n := by
  unfold cutV
  rw [HT.sIx_none, HT.sIx_nat, List.drop_zero, Nat.sub_zero]
  by_cases h : n ≤ xs.length
  · rw [Nat.min_eq_left h]
  · rw [Nat.min_eq_right (by omega), List.take_length, List.take_of_length_le (by omega)]
theorem cut_drop (xs : List V) (n : Nat) : cutV xs (some (n : Int)) none = xs.drop n := by
  unfold cutV
  rw [HT.sIx_none, HT.sIx_nat]
  by_cases h : n ≤ xs.length
  · rw [Nat.min_eq_left h, List.take_of_length_le (by rw [List.length_drop]; omega)]
  · rw [Nat.min_eq_right (by omega), List.drop_length, List.drop_of_length_le (by omega)]
    exact List.take_nil
theorem sgs_take (ns : List (List Nat)) (n : Nat) : (sgs ns).take n = sgs (ns.take n) := by unfold sgs; rw [List.map_take]
theorem sgs_drop (ns : List (List Nat)) (n : Nat) : (sgs ns).drop n = sgs (ns.drop n) := by unfold sgs; rw [List.map_drop]
theorem Alph.ok2 {al : List Nat} (h : Alph al (8 * al.length - 1)) (n3 : al.length ≤ 3) : AlphOk al ∧ ∀ c ∈ al, c ≤ 120 := by
  refine ⟨⟨List.length_pos_iff.mpr h.ne, n3, h.asc, fun c hc => ?_⟩, fun c hc => ?_⟩
  · have := h.lo c hc
    omega
  · have := h.lo c hc
    omega
theorem put_uniq {es : List Ent} {n t : List Nat} (h : Uniq es) : Uniq (putE es n t) := by
  unfold Uniq putE at *
  rw [told_any]
  split
  · rw [List.map_map]
    have e : ((fun e : Ent => e.1) ∘ fun e : Ent => if e.1 = n then (e.1, t) else e) = fun e : Ent => e.1 := funext fun e => by
      show (if e.1 = n then (e.1, t) else e).1 = e.1
      split <;> rfl
    rw [e]
    exact h
  · rename_i hn
    rw [List.map_append]
    refine List.nodup_append.mpr ⟨h, List.nodup_cons.mpr ⟨(by simp), List.nodup_nil⟩, fun a ha b hb e => ?_⟩
    subst e
    rw [List.mem_singleton.mp hb] at ha
    obtain ⟨e, he, e2⟩ := List.mem_map.mp ha
    have := told_in he
    rw [e2] at this
    exact hn this
theorem StOk.ne_prs {K : PySem.W.Frag} {H : Hp} {a p l : Addr} {ts : List Addr} (h : StOk K H a p) (hl : H l = some (.lst (ts.map V.ref))) : l ≠ a := fun z => by
  obtain ⟨i, v, q, m, h9⟩ := h.at_
  rw [← z, hl] at h9
  injection h9 with h9
  injection h9 with h9
  cases ts with
  | nil => cases h9
  | cons t ts =>
    cases ts with
    | nil => cases h9
    | cons u ts => cases h9
theorem StOk.ne_sgs {K : PySem.W.Frag} {H : Hp} {a p l : Addr} {ns : List (List Nat)} (h : StOk K H a p) (hl : H l = some (.lst (sgs ns))) : l ≠ a := fun z => by
  obtain ⟨i, v, q, m, h9⟩ := h.at_
  rw [← z, hl] at h9
  injection h9 with h9
  injection h9 with h9
  cases ns with
  | nil => cases h9
  | cons t ts => cases h9
theorem at_sgs {ns : List (List Nat)} {i : Int} (h0 : 0 ≤ i) (h1 : i < (ns.length : Int)) : ∃ n ∈ ns, atI (sgs ns) i = some (.str (S n)) := by
  have hi : i.toNat < ns.length := by omega
  have ei : i = (i.toNat : Int) := by omega
  refine ⟨ns[i.toNat], List.getElem_mem hi, ?_⟩
  unfold atI ixN
  rw [if_pos h0, sgs_len, if_pos h1]
  show (sgs ns)[i.toNat]? = _
  unfold sgs
  rw [List.getElem?_map, List.getElem?_eq_getElem hi]
  rfl
theorem mem_small3 {k : Nat} (h1 : 97 ≤ k) (h2 : k ≤ 122) : k ∈ small := by
  unfold small
  exact List.mem_map.mpr ⟨k - 97, List.mem_range.mpr (by omega), by omega⟩
def spNew (K : PySem.W.Frag) : Sp := fun vs H Q _ => ∃ (a : Addr) (ns : List Int), vs = [.ref a] ∧ SqL K H a (ns.map V.int) ∧ ns.length ≤ 63 ∧ (∀ z ∈ ns, Builtin.Int.intBits z ≤ 1048576) ∧ ∀ b p H', Same H H' → StOk K H' b p → Q (.ref b) H'
end W8

set_option Elab.async false
set_option linter.all false
set_option maxRecDepth 100000
set_option maxHeartbeats 4000000
/-! steps and their books, in plain Lean -/
namespace W8
open PySem PySem.Spec PyProof.Rows L2 L2E
inductive Stp where
  | note (n t : List Nat)
  | strike (n : List Nat)
  | ren (o n : List Nat)
def Stp.row : Stp → Row
  | .note n t => [.str "note", .str (S n), .str (S t)]
  | .strike n => [.str "strike", .str (S n), .str ""]
  | .ren o n => [.str "rename", .str (S o), .str (S n)]
inductive Flt where
  | name (n : List Nat)
  | text (i : Nat)
  | lim (n : Nat)
def Flt.cl : Flt → Nat
  | .name _ => 12
  | .text _ => 11
  | .lim _ => 15
def Flt.fld : Flt → Str
  | .name _ => "name"
  | .text _ => "index"
  | .lim _ => "limit"
def Flt.v : Flt → V
  | .name n => .str (S n)
  | .text i => .int (i : Int)
  | .lim n => .int (n : Int)
def ErrO (E : XK) (c : Nat → Addr) (f : Flt) (H : Hp) : Prop := ErrF E (c f.cl) f.fld f.v H
theorem ErrO.mono {E : XK} {c : Nat → Addr} {f : Flt} {H H1 : Hp} (h : ErrO E c f H) (s : Same H H1) : ErrO E c f H1 := ErrF.mono h s
def nameB (n : List Nat) : Bool := decide (1 ≤ n.length) && (decide (n.length ≤ 12) && ((n.take 1).all (fun c => decide (c ∈ small)) && n.all fun c => decide (c ∈ small ∨ c ∈ digits)))
theorem nameB_iff {n : List Nat} : nameB n = true ↔ NameOk n := by
  unfold nameB
  rw [Bool.and_eq_true, Bool.and_eq_true, Bool.and_eq_true, List.all_eq_true, List.all_eq_true]
  constructor
  · rintro ⟨h1, h2, h3, h4⟩
    refine ⟨of_decide_eq_true h1, of_decide_eq_true h2, fun c hc => ?_, fun c hc => of_decide_eq_true (h4 c hc)⟩
    cases n with
    | nil => cases hc
    | cons a r =>
      have e : a = c := by simpa using hc
      subst e
      exact of_decide_eq_true (h3 a (by simp))
  · rintro ⟨h1, h2, h3, h4⟩
    refine ⟨decide_eq_true h1, decide_eq_true h2, fun c hc => ?_, fun c hc => decide_eq_true (h4 c hc)⟩
    cases n with
    | nil => cases hc
    | cons a r =>
      have : c = a := by simpa using hc
      rw [this]
      exact decide_eq_true (h3 a rfl)
theorem nameB_false {n : List Nat} : nameB n = false ↔ ¬ NameOk n := by
  rw [← nameB_iff]
  cases nameB n <;> simp
def noteE (al : List Nat) (room : Nat) (es : List Ent) (n t : List Nat) : Flt ⊕ List Ent :=
  if nameB n = false then .inl (.name n) else
  match readP al t with
  | some (.text i) => .inl (.text i)
  | some (.rows _) => if toldE es n = none ∧ es.length = room then .inl (.lim room) else .inr (putE es n t)
  | _ => .inl (.lim 200)
def strikeE (es : List Ent) (n : List Nat) : Flt ⊕ List Ent := if toldE es n = none then .inl (.name n) else .inr (dropE es n)
def ren1 (o n : List Nat) (e : Ent) : Ent := (if e.1 = o then n else e.1, e.2)
def renE (es : List Ent) (o n : List Nat) : List Ent := es.map (ren1 o n)
def renameE (es : List Ent) (o n : List Nat) : Flt ⊕ List Ent :=
  if toldE es o = none then .inl (.name o) else if nameB n = false ∨ toldE es n ≠ none then .inl (.name n) else .inr (renE es o n)
def stepE (al : List Nat) (room : Nat) (es : List Ent) : Stp → Flt ⊕ List Ent
  | .note n t => noteE al room es n t
  | .strike n => strikeE es n
  | .ren o n => renameE es o n
structure BOk (al : List Nat) (room : Nat) (es : List Ent) : Prop where
  u : Uniq es
  l : es.length ≤ room
  v : ∀ e ∈ es, NameOk e.1 ∧ ∃ rows, readP al e.2 = some (.rows rows)
theorem BOk.nil {al : List Nat} {room : Nat} : BOk al room [] := ⟨List.nodup_nil, Nat.zero_le _, fun e h => nomatch h⟩
theorem told_dec {es : List Ent} {n : List Nat} (h : toldE es n ≠ none) : (toldE es n).isSome = true := by
  cases hh : toldE es n with
  | none => exact absurd hh h
  | some _ => rfl
theorem told_is {es : List Ent} {n : List Nat} (h : (toldE es n).isSome = true) : toldE es n ≠ none := fun z => by rw [z] at h; cases h
theorem mem_of_told {es : List Ent} {n : List Nat} (h : toldE es n ≠ none) : ∃ t, (n, t) ∈ es := by
  cases hh : toldE es n with
  | none => exact absurd hh h
  | some t => exact ⟨t, told_mem hh⟩
theorem ren_uniq {es : List Ent} {o n : List Nat} (u : Uniq es) (h : toldE es n = none) : Uniq (renE es o n) := by
  unfold Uniq renE at *
  rw [List.map_map, List.Nodup, List.pairwise_map]
  rw [List.Nodup, List.pairwise_map] at u
  have nn : ∀ e ∈ es, e.1 ≠ n := fun e he z => told_none h (List.mem_map.mpr ⟨e, he, z⟩)
  refine List.Pairwise.imp_of_mem (fun {a b} ha hb hab => ?_) u
  show (if a.1 = o then n else a.1) ≠ (if b.1 = o then n else b.1)
  split <;> split
  · rename_i h1 h2
    exact fun _ => hab (h1.trans h2.symm)
  · exact fun z => nn b hb z.symm
  · exact fun z => nn a ha z
  · exact hab
theorem note_ok {al : List Nat} {room : Nat} {es es' : List Ent} {n t : List Nat} (e : noteE al room es n t = .inr es') : NameOk n ∧ (∃ rows, readP al t = some (.rows rows)) ∧ es' = putE es n t ∧ (toldE es n = none → es.length ≠ room) := by
  unfold noteE at e
  split at e
  · cases e
  · rename_i hb
    split at e
    · cases e
    · rename_i rows hr
      split at e
      · cases e
      · rename_i hn
        cases e
        exact ⟨nameB_iff.mp (by simpa using hb), ⟨rows, hr⟩, rfl, fun h1 h2 => hn ⟨h1, h2⟩⟩
    · cases e
theorem step_ok {al : List Nat} {room : Nat} {es es' : List Ent} {s : Stp} (h : BOk al room es) (e : stepE al room es s = .inr es') : BOk al room es' := by
  cases s with
  | note n t =>
    obtain ⟨h1, h2, rfl, h3⟩ := note_ok e
    refine ⟨put_uniq h.u, ?_, fun d hd => ?_⟩
    · rw [put_len]
      have := h.l
      split
      · exact this
      · rename_i h9
        have := h3 (by cases hh : toldE es n with | none => rfl | some _ => rw [hh] at h9; exact absurd rfl h9)
        omega
    · rcases put_mem hd with z | rfl
      · exact h.v d z
      · exact ⟨h1, h2⟩
  | strike n =>
    replace e : strikeE es n = .inr es' := e
    unfold strikeE at e
    split at e
    · cases e
    · cases e
      exact ⟨List.Nodup.sublist (List.filter_sublist.map _) h.u, Nat.le_trans (List.length_filter_le _ _) h.l, fun d hd => h.v d (List.mem_filter.mp hd).1⟩
  | ren o n =>
    replace e : renameE es o n = .inr es' := e
    unfold renameE at e
    split at e
    · cases e
    · split at e
      · cases e
      · rename_i h1 h2
        cases e
        have h3 : toldE es n = none := Classical.byContradiction fun z => h2 (.inr z)
        have h4 : NameOk n := nameB_iff.mp (by cases hb : nameB n with | true => rfl | false => exact absurd (.inl hb) h2)
        refine ⟨ren_uniq h.u h3, by unfold renE; rw [List.length_map]; exact h.l, fun d hd => ?_⟩
        obtain ⟨d0, hd0, rfl⟩ := List.mem_map.mp hd
        obtain ⟨v1, v2⟩ := h.v d0 hd0
        refine ⟨?_, v2⟩
        show NameOk (if d0.1 = o then n else d0.1)
        split
        · exact h4
        · exact v1
/-- what a step's names and text need -/
def Stp.Fit (al : List Nat) : Stp → Prop
  | .note n t => n.length ≤ 1000 ∧ t.length ≤ 1000 ∧ ∃ r, readP al t = some r
  | .strike n => n.length ≤ 1000
  | .ren o n => o.length ≤ 1000 ∧ n.length ≤ 1000
theorem step_fit {al : List Nat} {room : Nat} {es es' : List Ent} {s : Stp} (h : BOk al room es) (e : stepE al room es s = .inr es') : s.Fit al := by
  cases s with
  | note n t =>
    obtain ⟨h1, ⟨rows, h2⟩, _, _⟩ := note_ok e
    have := h1.n12
    have := readP_len h2
    exact ⟨by omega, by omega, _, h2⟩
  | strike n =>
    replace e : strikeE es n = .inr es' := e
    unfold strikeE at e
    split at e
    · cases e
    · rename_i h1
      obtain ⟨t, ht⟩ := mem_of_told h1
      have := (h.v _ ht).1.n12
      show n.length ≤ 1000
      replace this : n.length ≤ 12 := this
      omega
  | ren o n =>
    replace e : renameE es o n = .inr es' := e
    unfold renameE at e
    split at e
    · cases e
    · split at e
      · cases e
      · rename_i h1 h2
        obtain ⟨t, ht⟩ := mem_of_told h1
        have h3 := (h.v _ ht).1.n12
        replace h3 : o.length ≤ 12 := h3
        have h4 : NameOk n := nameB_iff.mp (by cases hb : nameB n with | true => rfl | false => exact absurd (.inl hb) h2)
        have := h4.n12
        exact ⟨by omega, by omega⟩
/-- a history: the books and the steps between them -/
structure Hist (al : List Nat) (room : Nat) (B : List (List Ent)) (st : List Stp) : Prop where
  len : B.length = st.length + 1
  h0 : B[0]? = some []
  go : ∀ i s, st[i]? = some s → ∃ e e', B[i]? = some e ∧ B[i + 1]? = some e' ∧ stepE al room e s = .inr e'
section
variable {al : List Nat} {room n : Nat} {B : List (List Ent)} {st : List Stp}
theorem Hist.one : Hist al room [[]] [] := ⟨rfl, rfl, fun i s h => nomatch h⟩
theorem Hist.ok (h : Hist al room B st) : ∀ {i : Nat} {es : List Ent}, B[i]? = some es → BOk al room es
  | 0, es, e => by
    rw [h.h0] at e
    cases e
    exact BOk.nil
  | i + 1, es, e => by
    have hi := (List.getElem?_eq_some_iff.mp e).1
    have h1 : i < st.length := by have := h.len; omega
    obtain ⟨d, d', e1, e2, e3⟩ := h.go i _ (List.getElem?_eq_getElem h1)
    rw [e] at e2
    cases e2
    exact step_ok (h.ok e1) e3
theorem Hist.at_ (h : Hist al room B st) (hn : n ≤ st.length) : ∃ es, B[n]? = some es := ⟨_, List.getElem?_eq_getElem (by have := h.len; omega)⟩
theorem Hist.push (h : Hist al room B st) {es es' : List Ent} {s : Stp} (hn : n ≤ st.length) (he : B[n]? = some es) (hs : stepE al room es s = .inr es') : Hist al room (B.take (n + 1) ++ [es']) (st.take n ++ [s]) := by
  have hl := h.len
  have l1 : (B.take (n + 1)).length = n + 1 := by rw [List.length_take]; omega
  have l2 : (st.take n).length = n := by rw [List.length_take]; omega
  have gB : ∀ i, i < n + 1 → (B.take (n + 1) ++ [es'])[i]? = B[i]? := fun i hi => by rw [List.getElem?_append_left (by omega), List.getElem?_take_of_lt hi]
  have gL : (B.take (n + 1) ++ [es'])[n + 1]? = some es' := by rw [List.getElem?_append_right (by omega), l1, Nat.sub_self]; rfl
  refine ⟨by rw [List.length_append, List.length_append, l1, l2]; rfl, by rw [gB 0 (by omega)]; exact h.h0, fun i z hz => ?_⟩
  by_cases hi : i < n
  · rw [List.getElem?_append_left (by omega), List.getElem?_take_of_lt hi] at hz
    obtain ⟨e, e', e1, e2, e3⟩ := h.go i z hz
    exact ⟨e, e', by rw [gB i (by omega)]; exact e1, by rw [gB (i + 1) (by omega)]; exact e2, e3⟩
  · rw [List.getElem?_append_right (by omega), l2] at hz
    have : i = n := by
      have := (List.getElem?_eq_some_iff.mp hz).1
      simp at this
      omega
    subst this
    rw [Nat.sub_self] at hz
    cases hz
    exact ⟨es, es', by rw [gB i (by omega)]; exact he, gL, hs⟩
end
end W8

set_option Elab.async false
set_option linter.all false
set_option maxRecDepth 100000
set_option maxHeartbeats 4000000
namespace W8
open PySem PySem.Spec PyProof.Rows L2 L2E
theorem PatAt.off {H : Hp} {p C d : Addr} {al : List Nat} {rows : List Row} {o : Obj} {u w : HO} (h : PatAt H p C al rows) (hd : H d = some (.frz o u)) : PatAt (upd H d w) p C al rows := by
  have go : ∀ {b : Addr} {v : HO}, H b = some v → (∀ o u, v ≠ .frz o u) → upd H d w b = some v := fun {b v} e n => by rw [upd_ne (fun z => by rw [z, hd] at e; exact n _ _ (Option.some.inj e).symm)]; exact e
  obtain ⟨dx, rt, ts, a, b, c⟩ := h.ex
  exact ⟨dx, rt, ts, go a (fun _ _ z => nomatch z), go b (fun _ _ z => nomatch z), Paired.mapP c fun _ _ z => go z (fun _ _ z => nomatch z)⟩
theorem BookAt.off {H : Hp} {p dx td pd f1 f2 C CP d : Addr} {al : List Nat} {room : Nat} {es : List Ent} {o : Obj} {u w : HO} (h : BookAt H p dx td pd f1 f2 C CP al room es) (hd : H d = some (.frz o u)) : BookAt (upd H d w) p dx td pd f1 f2 C CP al room es := by
  have go : ∀ {b : Addr} {v : HO}, H b = some v → (∀ o u, v ≠ .frz o u) → upd H d w b = some v := fun {b v} e n => by rw [upd_ne (fun z => by rw [z, hd] at e; exact n _ _ (Option.some.inj e).symm)]; exact e
  obtain ⟨kps, a, b⟩ := h.q
  exact ⟨go h.o (fun _ _ z => nomatch z), go h.t (fun _ _ z => nomatch z), ⟨kps, go a (fun _ _ z => nomatch z), Paired.mapP b fun kv e ⟨e1, q, rows, e2, e3, e4⟩ => ⟨e1, q, rows, e2, e3, e4.off hd⟩⟩, h.n, h.A, h.r, h.l, h.v⟩
abbrev sRenamed : Stmt := top 55
theorem scRenamed : FnScope ["book", "old", "new", "result", "name"] ["book", "old", "new"] (defScope sRenamed) := ⟨rfl, rfl, rfl, by decide +kernel, rfl, by decide +kernel, by decide +kernel⟩
def spRenamed (c : Nat → Addr) (C CP : Addr) : Sp := fun vs H Q E => ∃ (p dx td pd f1 f2 : Addr) (al : List Nat) (room : Nat) (es : List Ent) (o n : List Nat), vs = [.ref p, .str (S o), .str (S n)] ∧ BookAt H p dx td pd f1 f2 C CP al room es ∧ Uniq es ∧ n.length ≤ 1000 ∧
  (∀ f, renameE es o n = .inl f → ErrO E c f H) ∧ (∀ es', renameE es o n = .inr es' → ∀ p' H', Same H H' → BookN H H' p' C CP al room es' → Q (.ref p') H')
abbrev sStepped : Stmt := top 56
theorem scStepped : FnScope ["book", "step", "kind", "name", "rest"] ["book", "step"] (defScope sStepped) := ⟨rfl, rfl, rfl, by decide +kernel, rfl, by decide +kernel, by decide +kernel⟩
def spStepped (c : Nat → Addr) (C CP : Addr) : Sp := fun vs H Q E => ∃ (p dx td pd f1 f2 t : Addr) (al : List Nat) (room : Nat) (es : List Ent) (s : Stp), vs = [.ref p, .ref t] ∧ BookAt H p dx td pd f1 f2 C CP al room es ∧ Uniq es ∧ H t = some (.tup s.row) ∧ s.Fit al ∧
  (∀ f, stepE al room es s = .inl f → ErrO E c f H) ∧ (∀ es', stepE al room es s = .inr es' → (∀ H', KB td pd H H' → BookAt H' p dx td pd f1 f2 C CP al room es' → Q (.ref p) H') ∧ (∀ p' H', Same H H' → BookN H H' p' C CP al room es' → Q (.ref p') H'))
section
variable {P : Program} {w : World} {K : PySem.W.Frag} {mg : Str → Option Value} {base : Heap} {c : Nat → Addr} {fT fN fL : Addr}
theorem ok_renamed {f C CP p0 g : Addr} {fd fdg : FuncData} (F : Fun K "renamed" "renamed" sRenamed f fd) (T : BkT K mg C) (XE : BkE P K mg c fT fN fL) (I : BkI K mg C p0 g) (M : BkM P w K mg base c C CP) (G : FnOk P w K mg base CX0 1 g fdg ["self"] (getSp C "_room")) (bg : Binds K fdg ["self"] []) (cname : CalX P w K mg base "check_name" 3 ["name"] (spName c)) :
    FnOk P w K mg base (L2N.CX P w) 9 f fd ["book", "old", "new"] (spRenamed c C CP) := by
  refine okN F scRenamed (fun vs H Q E h => ?_) (fun cdv A outer sh H vs Q E hr h => ?_)
  · obtain ⟨p, dx, td, pd, f1, f2, al, room, es, o, n, rfl, _⟩ := h
    rfl
  obtain ⟨p, dx, td, pd, f1, f2, al, room, es, o, n, rfl, B, un, hn, eF, q⟩ := h
  obtain ⟨fi, fdi, Fi, mi, bi⟩ := M.it
  obtain ⟨fn, fdn, Fn, mn, bn⟩ := M.in_.ex
  obtain ⟨fs, fds, Fs, ms, bs⟩ := M.set.ex
  obtain ⟨fb, fdb, Fb, mb, bb⟩ := M.new.ex
  have hu := Nat.lt_of_le_of_lt (Nat.add_le_add_left (show 1 ≤ 64 by decide) _) hr.units
  have hr1 := hr.mono (show 1 ≤ 8 by decide)
  have hr3 := hr.mono (show 3 ≤ 8 by decide)
  refine ⟨_, (pss_cons (ps_if (pt_cmpR (op_notIn_own (sp := spBIn C) (E := E0) Fn mn bn pass0 hr1) (pv 1) (pv 0) rfl)
      (pss_one (L2N.ps_raise rfl (L2N.takes_of rfl rfl rfl rfl) (L2N.pmk_xm XE.n hr XE.mN XE.sup (pa_cons (pv 1) pa_nil))))
      pss_nil)
    (pss_cons (ps_if (pt_cmpR (op_in_own (sp := spBIn C) (E := E0) Fn mn bn pass0 hr1) (pcallX (E := E) cname hr (L2N.passes_call (L2N.takes_of rfl rfl rfl rfl) (fun _ _ _ _ h => h)) (pa_cons (pv 2) pa_nil)) (pv 0) rfl)
      (pss_one (L2N.ps_raise rfl (L2N.takes_of rfl rfl rfl rfl) (L2N.pmk_xm XE.n hr XE.mN XE.sup (pa_cons (pv 2) pa_nil))))
      pss_nil)
    (pss_cons (ps_set (i := 3) scRenamed.nd rfl (Or.inl rfl) (pe_make mb Fb hr3 (by rfl) T.mgC bb .nil pass0 (pa_cons (pe_fld (pv 0) rfl) (pa_cons (pe_prop (dvs := []) (E := E0) (pv 0) T.cl I.rm G (hr.mono (by decide)) bg .nil pass0 rfl) pa_nil))))
    (pss_cons (ps_lock (ps_for PassesOwn.leaving rfl (pi_ownD (pv 0) Fi mi bi hr1) (pg_name (i := 4) scRenamed.nd rfl (Or.inl rfl))
      (pss_one (ps_if (pt_cmpR op_eq (pv 4) (pv 1) (nomark _))
        (pss_one (ps_asg (pe_dget hu (pe_fld (pv 0) rfl) (pv 4) (fun _ _ => rfl)) (pg_sub (pv 3) (pv 2) (set_own (E := EN) Fs ms M.nsq bs passN hr))))
        (pss_one (ps_asg (pe_dget hu (pe_fld (pv 0) rfl) (pv 4) (fun _ _ => rfl)) (pg_sub (pv 3) (pv 4) (set_own (E := EN) Fs ms M.nsq bs passN hr))))))))
    (pss_one (ps_ret (pv 3))))))), ?_⟩
  have l100 : es.length ≤ 100 := Nat.le_trans B.l B.r
  have bL : BookL H p dx td pd f1 f2 C al room es := ⟨B.o, .inl B.t⟩
  refine ⟨_, rfl, _, rfl, p, dx, _, rfl, B.o, ⟨p, dx, td, pd, f1, f2, al, room, es, o, rfl, bL, _, rfl, _, rfl, ?_⟩⟩
  refine ite2 (fun h1 => ?_) (fun h1 => ?_)
  · have hnone : toldE es o = none := by
      cases hh : toldE es o with
      | none => rfl
      | some _ => rw [hh] at h1; cases h1
    have hf : renameE es o n = .inl (.name o) := by unfold renameE; rw [if_pos hnone]
    exact ⟨_, rfl, _, rfl, fun d hd => ErrF.go (eF _ hf) (Same.refl H) hd⟩
  have hso : ¬ toldE es o = none := fun z => h1 (by rw [z]; rfl)
  refine ⟨_, rfl, n, rfl, hn, fun hok => ?_, fun hbad => ?_⟩
  rotate_left
  · have hf : renameE es o n = .inl (.name n) := by unfold renameE; rw [if_neg hso, if_pos (.inl (nameB_false.mpr hbad))]
    exact eF _ hf
  refine ⟨_, rfl, p, dx, _, rfl, B.o, ⟨p, dx, td, pd, f1, f2, al, room, es, n, rfl, bL, _, rfl, _, rfl, ?_⟩⟩
  refine ite2 (fun h2 => ?_) (fun h2 => ?_)
  · have hf : renameE es o n = .inl (.name n) := by unfold renameE; rw [if_neg hso, if_pos (.inr (told_is h2))]
    exact ⟨_, rfl, _, rfl, fun d hd => ErrF.go (eF _ hf) (Same.refl H) hd⟩
  have hnn : toldE es n = none := Classical.byContradiction fun z => h2 (told_dec z)
  have q := q (renE es o n) (by unfold renameE; rw [if_neg hso, if_neg (fun z => z.elim (fun z => nameB_false.mp z hok) (fun z => z hnn))])
  have un' : Uniq (renE es o n) := ren_uniq un hnn
  clear eF
  refine ⟨_, rfl, p, C, dx, _, _, rfl, B.o, T.cl, T.nL, bk_letters _ _ _ _ _ _, _, rfl, p, dx, _, rfl, B.o, p, dx, _, _, rfl, B.o, bk_room _ _ _ _ _ _, fun x dx' hx hdx hne => ?_⟩
  have sb : Same H (upd (upd H dx' (.own x)) x (.ins C dx' [])) := (same_new hdx (.own x)).trans (same_new (by rw [upd_ne (Ne.symm hne)]; exact hx) _)
  refine ⟨x, dx', al, room, rfl, upd_same, B.A, B.r, fun H1 td' pd' f1' f2' bt nt np B' => ⟨rfl, ?_⟩⟩
  have nt := sb.free nt
  have np := sb.free np
  have s1 : Same H H1 := fun b o e => bt b o (fun z => by rw [z, hx] at e; cases e) (sb b o e)
  clear bt sb
  have B1 := B.mono s1
  refine ⟨td, _, B1.t, trivial, fun od => ?_⟩
  have npt : p ≠ td := ne_of B1.o B1.t (fun z => nomatch z)
  have nxt : x ≠ td := ne_of B'.o B1.t (fun z => nomatch z)
  have ntt : td ≠ td' := fun z => by rw [← z, B.t] at nt; cases nt
  have ntp : td ≠ pd' := fun z => by rw [← z, B.t] at np; cases np
  have hp0 : upd H1 td (.frz od (.dK (tkv es))) p = some (.ins C dx (bkf (.str (S al)) (.ref td) (.ref pd) (.ref f1) (.ref f2) (.int (room : Int)))) := by rw [upd_ne npt]; exact B1.o
  have ht0 : upd H1 td (.frz od (.dK (tkv es))) td = some (.frz od (.dK (tkv es))) := upd_same
  have B0 : BookAt (upd H1 td (.frz od (.dK (tkv es)))) x dx' td' pd' f1' f2' C CP al room [] := by
    obtain ⟨kps, k1, k2⟩ := B'.q
    cases k2
    exact ⟨by rw [upd_ne nxt]; exact B'.o, by rw [upd_ne (Ne.symm ntt)]; exact B'.t, ⟨[], by rw [upd_ne (Ne.symm ntp)]; exact k1, .nil⟩, B'.n, B'.A, B'.r, B'.l, B'.v⟩
  have hl0 : ∀ H', Same (upd H1 td (.frz od (.dK (tkv es)))) H' → Same H1 (upd H' td (.dK (tkv es))) := fun H' s => lock_same B1.t s
  have nt1 : ∀ b, b = td' ∨ b = pd' → H b = none := fun b h => by rcases h with rfl | rfl <;> assumption
  generalize hH0 : upd H1 td (.frz od (.dK (tkv es))) = H0 at *
  refine ⟨_, rfl, p, dx, _, td, od, tkv es, rfl, hp0, bk_texts _ _ _ _ _ _, ht0, ?_⟩
  refine L2.for_it L2.walk_keys (fun i σ H' => ∃ (z : Option V), σ = [some (.ref p), some (.str (S o)), some (.str (S n)), some (.ref x), z] ∧ KB td' pd' H0 H' ∧ BookAt H' x dx' td' pd' f1' f2' C CP al room (renE (es.take i) o n)) ⟨none, rfl, KB.of (Same.refl _), B0⟩ (fun _ _ _ _ ⟨_, _, k, _⟩ => k _ _ ntt ntp ht0) ?_ ?_
  · rintro i v σ H2 H3 hi ⟨z, rfl, k2, B2⟩ ⟨rfl, k, v', hk, rfl⟩
    unfold tkv at hk
    rw [List.getElem?_map] at hk
    cases he : es[i]? with
    | none => rw [he] at hk; cases hk
    | some e =>
      rw [he] at hk
      cases hk
      have hm := List.mem_of_getElem? he
      have hi2 : i < es.length := (List.getElem?_eq_some_iff.mp he).1
      have hte : toldE es e.1 = some e.2 := told_get un he
      obtain ⟨hok1, rows, hrow⟩ := B.read hte
      have h200 := readP_len hrow
      have hn12 := hok1.n12
      have hsp : renE (es.take (i + 1)) o n = renE (es.take i) o n ++ [ren1 o n e] := by
        unfold renE
        rw [List.take_add_one, he, List.map_append]
        rfl
      have hall : renE es o n = renE (es.take i) o n ++ ren1 o n e :: renE (es.drop (i + 1)) o n := by
        unfold renE
        rw [← List.map_cons, ← List.map_append]
        obtain ⟨g1, g2⟩ := List.getElem?_eq_some_iff.mp he
        rw [← g2, ← List.drop_eq_getElem_cons g1, List.take_append_drop]
      have hnew : toldE (renE (es.take i) o n) (ren1 o n e).1 = none := told_not fun z => by
        have u9 := un'
        unfold Uniq at u9
        rw [hall, List.map_append] at u9
        exact (List.nodup_append.mp u9).2.2 _ z _ List.mem_cons_self rfl
      have hlen : (renE (es.take i) o n).length ≠ room := by
        unfold renE
        rw [List.length_map, List.length_take]
        have := B.l
        omega
      have hget : DGet H3 td (.str (S e.1)) (some (V.str (S e.2))) := by
        have := DGet.tkv (es := es) (nm := e.1) (.inr ⟨od, k2 _ _ ntt ntp ht0⟩)
        rw [hte] at this
        exact this
      have hp3 := k2 p _ (fun z => by rw [z] at hp0; have := nt1 td' (.inl rfl); rw [← z, B.o] at this; cases this) (fun z => by have := nt1 pd' (.inr rfl); rw [← z, B.o] at this; cases this) hp0
      have put : ∀ (x1 : List Nat), x1 = (ren1 o n e).1 → NameOk x1 → ∀ R : L2.St → Hp → Prop, (∀ z H', KB td' pd' H0 H' → BookAt H' x dx' td' pd' f1' f2' C CP al room (renE (es.take (i + 1)) o n) → R [some (.ref p), some (.str (S o)), some (.str (S n)), some (.ref x), z] H') →
          spBSet c C CP [.ref x, .str (S x1), .str (S e.2)] H3 (fun _ H' => R [some (.ref p), some (.str (S o)), some (.str (S n)), some (.ref x), some (.str (S e.1))] H') EN := fun x1 hx1 hx1ok R hR => by
        subst hx1
        have := hx1ok.n12
        refine ⟨x, dx', td', pd', f1', f2', al, room, _, _, e.2, _, rfl, B2, by omega, by omega, hrow, fun z => absurd hx1ok z, fun _ => ⟨fun i h => (nomatch h), fun h => (nomatch h), fun rows' hr' => ⟨fun _ h9 => absurd h9 hlen, fun _ H4 k4 B4 => hR _ _ (k2.trans k4) ?_⟩⟩⟩
        rw [hsp]
        rw [put_new hnew] at B4
        exact B4
      refine ⟨_, rfl, _, rfl, rfl, _, rfl, ?_⟩
      refine ite2 (fun h3 => ?_) (fun h3 => ?_)
      · have h9 : V.str (S e.1) = V.str (S o) := of_decide_eq_true h3
        have he1 : e.1 = o := S_inj (by injection h9)
        refine ⟨_, rfl, p, C, dx, _, _, rfl, hp3, T.cl, T.nT, bk_texts _ _ _ _ _ _, _, rfl, td, _, rfl, hget, _, rfl, _, rfl, x, dx', _, rfl, B2.o, ?_⟩
        exact put n (by show n = if e.1 = o then n else e.1; rw [if_pos he1]) hok _ fun z H' k' B' => ⟨z, rfl, k', B'⟩
      · have he1 : ¬ e.1 = o := fun z => h3 (decide_eq_true (show V.str (S e.1) = V.str (S o) by rw [z]))
        refine ⟨_, rfl, p, C, dx, _, _, rfl, hp3, T.cl, T.nT, bk_texts _ _ _ _ _ _, _, rfl, td, _, rfl, hget, _, rfl, _, rfl, x, dx', _, rfl, B2.o, ?_⟩
        exact put e.1 (by show e.1 = if e.1 = o then n else e.1; rw [if_neg he1]) hok1 _ fun z H' k' B' => ⟨z, rfl, k', B'⟩
  rintro σ H2 ⟨z, rfl, k2, B2⟩
  rw [tkv_len, List.take_length] at B2
  have ht2 := k2 _ _ ntt ntp ht0
  refine ⟨ht2, _, rfl, q x _ (fun b o e => ?_) ⟨dx', td', pd', f1', f2', B2.off ht2, hx, nt, np⟩⟩
  by_cases hb : b = td
  · rw [hb, upd_same, ← B.t, ← hb]
    exact e
  · rw [upd_ne hb]
    refine k2 b o (fun z => by rw [z, nt] at e; cases e) (fun z => by rw [z, np] at e; cases e) ?_
    rw [← hH0, upd_ne hb]
    exact s1 b o e
theorem ok_stepped {f C CP : Addr} {fd : FuncData} (F : Fun K "stepped" "stepped" sStepped f fd) (T : BkT K mg C) (M : BkM P w K mg base c C CP) (mdrop : MCalX P w K mg base C "drop" 3 ["self", "name"] (spBDrop c C CP)) (cren : CalX P w K mg base "renamed" 9 ["book", "old", "new"] (spRenamed c C CP)) :
    FnOk P w K mg base (L2N.CX P w) 10 f fd ["book", "step"] (spStepped c C CP) := by
  refine okN F scStepped (fun vs H Q E h => ?_) (fun cdv A outer sh H vs Q E hr h => ?_)
  · obtain ⟨p, dx, td, pd, f1, f2, t, al, room, es, s, rfl, _⟩ := h
    rfl
  obtain ⟨p, dx, td, pd, f1, f2, t, al, room, es, s, rfl, B, un, ht, fit, eF, q⟩ := h
  obtain ⟨fs, fds, Fs, ms, bs⟩ := M.set.ex
  obtain ⟨fd', fdd, Fd, md, bd⟩ := mdrop.ex
  refine ⟨_, (pss_cons (ps_asg (pv 1) (pg_tup (by rfl) (pgs_cons (pg_name (i := 2) scStepped.nd rfl (Or.inl rfl)) (pgs_cons (pg_name (i := 3) scStepped.nd rfl (Or.inl rfl)) (pgs_cons (pg_name (i := 4) scStepped.nd rfl (Or.inl rfl)) pgs_nil)))))
    (pss_cons (ps_if (pt_cmpR op_eq (pv 2) pe_str (nomark _))
      (pss_one (ps_ret (pcallX (E := E) cren hr (L2N.passes_call (L2N.takes_of rfl rfl rfl rfl) (fun _ _ _ _ h => h)) (pa_cons (pv 0) (pa_cons (pv 3) (pa_cons (pv 4) pa_nil))))))
      pss_nil)
    (pss_cons (ps_if (pt_cmpR op_eq (pv 2) pe_str (nomark _))
      (pss_one (ps_asg (pv 4) (pg_sub (pv 0) (pv 3) (set_own (E := E) Fs ms M.nsq bs (L2N.passes_call (L2N.takes_of rfl rfl rfl rfl) (fun _ _ _ _ h => h)) (hr.mono (by decide))))))
      (pss_one (ps_expr (pe_meth (E := E) (pv 0) T.cl md Fd (hr.mono (by decide)) bd .nil (L2N.passes_call (L2N.takes_of rfl rfl rfl rfl) (fun _ _ _ _ h => h)) (pa_cons (pv 3) pa_nil)))))
    (pss_one (ps_ret (pv 0)))))), ?_⟩
  have nren : ∀ {x : Str}, x = "note" ∨ x = "strike" → ¬ (decide (V.str x = V.str "rename") = true) := fun {x} h z => by
    have e9 := of_decide_eq_true z
    injection e9 with e9
    rcases h with rfl | rfl <;> revert e9 <;> decide +kernel
  cases s with
  | ren o n =>
    refine ⟨_, rfl, t, _, rfl, SqT.of ht, rfl, _, _, rfl, _, _, rfl, _, _, rfl, rfl, _, rfl, rfl, _, rfl, ?_⟩
    refine ite2 (fun _ => ?_) (fun z => absurd (decide_eq_true rfl) z)
    exact ⟨_, rfl, _, rfl, _, rfl, p, dx, td, pd, f1, f2, al, room, es, o, n, rfl, B, un, fit.2, eF, fun es' e => (q es' e).2⟩
  | note n tx =>
    refine ⟨_, rfl, t, _, rfl, SqT.of ht, rfl, _, _, rfl, _, _, rfl, _, _, rfl, rfl, _, rfl, rfl, _, rfl, ?_⟩
    refine ite2 (fun z => absurd z (nren (.inl rfl))) (fun _ => ?_)
    refine ⟨_, rfl, rfl, _, rfl, ?_⟩
    refine ite2 (fun _ => ?_) (fun z => absurd (decide_eq_true rfl) z)
    obtain ⟨h1, h2, r, hrd⟩ := fit
    refine ⟨_, rfl, _, rfl, _, rfl, p, dx, _, rfl, B.o, p, dx, td, pd, f1, f2, al, room, es, n, tx, r, rfl, B, h1, h2, hrd, fun hb => ?_, fun hok => ⟨fun i hi => ?_, fun hl => ?_, fun rows hrr => ⟨fun h3 h4 => ?_, fun h3 H' k' B' => ⟨_, rfl, (q (putE es n tx) ?_).1 H' k' B'⟩⟩⟩⟩
    · exact eF (.name n) (by show noteE al room es n tx = _; unfold noteE; rw [if_pos (nameB_false.mpr hb)])
    all_goals have hnb : ¬ nameB n = false := fun z => nameB_false.mp z hok
    · subst hi
      exact eF (.text i) (by show noteE al room es n tx = _; unfold noteE; rw [if_neg hnb, hrd])
    · subst hl
      exact eF (.lim 200) (by show noteE al room es n tx = _; unfold noteE; rw [if_neg hnb, hrd])
    · subst hrr
      exact eF (.lim room) (by show noteE al room es n tx = _; unfold noteE; rw [if_neg hnb, hrd]; show (if toldE es n = none ∧ es.length = room then _ else _) = _; rw [if_pos ⟨h3, h4⟩])
    · subst hrr
      show noteE al room es n tx = _
      unfold noteE
      rw [if_neg hnb, hrd]
      show (if toldE es n = none ∧ es.length = room then _ else _) = _
      rw [if_neg (fun z => h3 z.1 z.2)]
  | strike n =>
    refine ⟨_, rfl, t, _, rfl, SqT.of ht, rfl, _, _, rfl, _, _, rfl, _, _, rfl, rfl, _, rfl, rfl, _, rfl, ?_⟩
    refine ite2 (fun z => absurd z (nren (.inr rfl))) (fun _ => ?_)
    refine ⟨_, rfl, rfl, _, rfl, ?_⟩
    refine ite2 (fun z => ?_) (fun _ => ?_)
    · have e9 := of_decide_eq_true z
      injection e9 with e9
      exact absurd e9 (show ("strike" : Str) ≠ "note" by decide +kernel)
    refine ⟨_, rfl, p, dx, _, rfl, B.o, bk_no _ _ _ _ _ _ (by decide +kernel), _, rfl, p, dx, td, pd, f1, f2, al, room, es, n, rfl, B, fun h1 => ?_, fun h1 H' k' B' => ⟨_, rfl, (q (dropE es n) ?_).1 H' k' B'⟩⟩
    · exact eF (.name n) (by show strikeE es n = _; unfold strikeE; rw [if_pos h1])
    · show strikeE es n = _
      unfold strikeE
      rw [if_neg (told_is h1)]
end
end W8

set_option Elab.async false
set_option linter.all false
set_option maxRecDepth 100000
set_option maxHeartbeats 4000000
namespace W8
open PySem PySem.Spec PyProof.Rows L2 L2E
def jf (b m u l : V) : List (Str × V) := [("_latest", b), ("_made", m), ("_undone", u), ("letters", l)]
theorem jf_latest (b m u l : V) : (jf b m u l).lookup ("_latest" : Str) = some b := by rfl
theorem jf_made (b m u l : V) : (jf b m u l).lookup ("_made" : Str) = some m := by rfl
theorem jf_undone (b m u l : V) : (jf b m u l).lookup ("_undone" : Str) = some u := by rfl
theorem jf_letters (b m u l : V) : (jf b m u l).lookup ("letters" : Str) = some l := by rfl
theorem jf_no (b m u l : V) {x : Str} (h : (((x == ("_latest" : Str)) = false ∧ (x == ("_made" : Str)) = false) ∧ (x == ("_undone" : Str)) = false) ∧ (x == ("letters" : Str)) = false) : (jf b m u l).lookup x = none := by
  unfold jf
  rw [List.lookup_cons, h.1.1.1, List.lookup_cons, h.1.1.2, List.lookup_cons, h.1.2, List.lookup_cons, h.2]
  rfl
structure JrT (K : PySem.W.Frag) (mg : Str → Option Value) (CJ : Addr) : Prop where
  cl : Cls K CJ
  nB : NoAttr K CJ "_latest"
  nM : NoAttr K CJ "_made"
  nU : NoAttr K CJ "_undone"
  nL : NoAttr K CJ "letters"
  mgC : mg "Journal" = some (.ref CJ)
theorem BookAt.keep {H H' : Hp} {p dx td pd f1 f2 C CP : Addr} {al : List Nat} {room : Nat} {es : List Ent} (h : BookAt H p dx td pd f1 f2 C CP al room es) (k1 : ∀ (b C dx : Addr) (fs : List (Str × V)), H b = some (.ins C dx fs) → (fs.length = 6 ∨ fs.length = 2) → H' b = some (.ins C dx fs))
    (k2 : ∀ b xs, H b = some (.tup xs) → H' b = some (.tup xs)) (k3 : ∀ b xs, H b = some (.dK xs) → H' b = some (.dK xs)) : BookAt H' p dx td pd f1 f2 C CP al room es := by
  obtain ⟨kps, a, b⟩ := h.q
  refine ⟨k1 _ _ _ _ h.o (.inl rfl), k3 _ _ h.t, ⟨kps, k3 _ _ a, Paired.mapP b fun kv e ⟨e1, q, rows, e2, e3, e4⟩ => ⟨e1, q, rows, e2, e3, ?_⟩⟩, h.n, h.A, h.r, h.l, h.v⟩
  obtain ⟨dx, rt, ts, a, b, c⟩ := e4.ex
  exact ⟨dx, rt, ts, k1 _ _ _ _ a (.inr rfl), k2 _ _ b, Paired.mapP c fun _ _ z => k2 _ _ z⟩
theorem BookAt.updL {H : Hp} {p dx td pd f1 f2 C CP x : Addr} {al : List Nat} {room : Nat} {es : List Ent} {xs : List V} {o : HO} (h : BookAt H p dx td pd f1 f2 C CP al room es) (hx : H x = some (.lst xs)) : BookAt (upd H x o) p dx td pd f1 f2 C CP al room es :=
  h.keep (fun b _ _ _ e _ => by rw [upd_ne (ne_of e hx (fun z => nomatch z))]; exact e) (fun b _ e => by rw [upd_ne (ne_of e hx (fun z => nomatch z))]; exact e) fun b _ e => by rw [upd_ne (ne_of e hx (fun z => nomatch z))]; exact e
theorem BookAt.updI {H : Hp} {p dx td pd f1 f2 C CP x C' jx : Addr} {al : List Nat} {room : Nat} {es : List Ent} {fs : List (Str × V)} {o : HO} (h : BookAt H p dx td pd f1 f2 C CP al room es) (hx : H x = some (.ins C' jx fs)) (hl : fs.length = 4) : BookAt (upd H x o) p dx td pd f1 f2 C CP al room es :=
  h.keep (fun b _ _ gs e n => by
    rw [upd_ne (ne_of e hx (fun z => by injection z with _ _ z; rw [z] at n; omega))]
    exact e) (fun b _ e => by rw [upd_ne (ne_of e hx (fun z => nomatch z))]; exact e) fun b _ e => by rw [upd_ne (ne_of e hx (fun z => nomatch z))]; exact e
/-- tuples of steps -/
abbrev Stps (H : Hp) (ts : List Addr) (ss : List Stp) : Prop := Paired (fun (t : Addr) (s : Stp) => H t = some (.tup s.row)) ts ss
theorem Stps.upd {H : Hp} {ts : List Addr} {ss : List Stp} {x : Addr} {u o : HO} (h : Stps H ts ss) (hx : H x = some u) (hu : ∀ ys, u ≠ .tup ys) : Stps (upd H x o) ts ss := Paired.mapP h fun _ _ z => by rw [upd_ne (ne_of z hx (fun w => hu _ w.symm))]; exact z
theorem Stps.same {H H' : Hp} {ts : List Addr} {ss : List Stp} (h : Stps H ts ss) (s : Same H H') : Stps H' ts ss := Paired.mapP h fun _ _ z => s _ _ z
/-- a journal at j; what is told of F stands apart from all that the journal changes -/
structure JP (F H : Hp) (j jx ml ul b dx td pd f1 f2 CJ C CP : Addr) (al : List Nat) (room : Nat) (B : List (List Ent)) (st : List Stp) (n : Nat) (ms us : List Addr) (es : List Ent) : Prop where
  o : H j = some (.ins CJ jx (jf (.ref b) (.ref ml) (.ref ul) (.str (S al))))
  m : H ml = some (.lst (ms.map V.ref))
  mp : Stps H ms (st.take n)
  u : H ul = some (.lst (us.map V.ref))
  up : Stps H us (st.drop n).reverse
  bk : BookAt H b dx td pd f1 f2 C CP al room es
  h : Hist al room B st
  n : n ≤ st.length
  z : st.length ≤ 1000
  ne : ml ≠ ul
  fj : F j = none
  fm : F ml = none
  fu : F ul = none
  ft : F td = none
  fp : F pd = none
def JrnP (F H : Hp) (j CJ C CP : Addr) (al : List Nat) (room : Nat) (B : List (List Ent)) (st : List Stp) (n : Nat) : Prop := ∃ jx ml ul b dx td pd f1 f2 ms us es, JP F H j jx ml ul b dx td pd f1 f2 CJ C CP al room B st n ms us es
def JrnAt (F H : Hp) (j CJ C CP : Addr) (al : List Nat) (room : Nat) (B : List (List Ent)) (st : List Stp) (n : Nat) : Prop := ∃ jx ml ul b dx td pd f1 f2 ms us es, JP F H j jx ml ul b dx td pd f1 f2 CJ C CP al room B st n ms us es ∧ B[n]? = some es
section
variable {F F' H H' : Hp} {j jx ml ul b dx td pd f1 f2 CJ C CP : Addr} {al : List Nat} {room : Nat} {B : List (List Ent)} {st : List Stp} {n : Nat} {ms us : List Addr} {es : List Ent}
theorem JP.same (J : JP F H j jx ml ul b dx td pd f1 f2 CJ C CP al room B st n ms us es) (s : Same H H') : JP F H' j jx ml ul b dx td pd f1 f2 CJ C CP al room B st n ms us es :=
  ⟨s _ _ J.o, s _ _ J.m, J.mp.same s, s _ _ J.u, J.up.same s, J.bk.mono s, J.h, J.n, J.z, J.ne, J.fj, J.fm, J.fu, J.ft, J.fp⟩
theorem JrnAt.same (J : JrnAt F H j CJ C CP al room B st n) (s : Same H H') : JrnAt F H' j CJ C CP al room B st n := by
  obtain ⟨jx, ml, ul, b, dx, td, pd, f1, f2, ms, us, es, J, e⟩ := J
  exact ⟨_, _, _, _, _, _, _, _, _, _, _, _, J.same s, e⟩
theorem JrnAt.part (J : JrnAt F H j CJ C CP al room B st n) : JrnP F H j CJ C CP al room B st n := by
  obtain ⟨jx, ml, ul, b, dx, td, pd, f1, f2, ms, us, es, J, e⟩ := J
  exact ⟨_, _, _, _, _, _, _, _, _, _, _, _, J⟩
/-- the frame grows, and a list of the frame is changed -/
theorem JrnAt.move {a : Addr} {ys : List V} (J : JrnAt F H j CJ C CP al room B st n) (k : But a H H') (ha : H a = some (.lst ys)) (hf : F a ≠ none) (hF : ∀ x, F' x ≠ none → F x ≠ none ∨ H x = none) : JrnAt F' H' j CJ C CP al room B st n := by
  obtain ⟨jx, ml, ul, b, dx, td, pd, f1, f2, ms, us, es, J, e⟩ := J
  have fr : ∀ {x : Addr} {o : HO}, H x = some o → F x = none → F' x = none := fun {x o} h1 h2 => Classical.byContradiction fun z => by
    rcases hF x z with w | w
    · exact w h2
    · rw [h1] at w; cases w
  have na : ∀ {x : Addr}, F x = none → x ≠ a := fun h z => hf (z ▸ h)
  have kd : ∀ {x : Addr} {o : HO}, H x = some o → (∀ ys, o ≠ .lst ys) → H' x = some o := fun {x o} h n => k _ _ (ne_of h ha (fun z => n _ z)) h
  obtain ⟨kps, q1, q2⟩ := J.bk.q
  refine ⟨jx, ml, ul, b, dx, td, pd, f1, f2, ms, us, es, ⟨kd J.o (fun _ z => nomatch z), k _ _ (na J.fm) J.m, Paired.mapP J.mp fun _ _ z => kd z (fun _ z => nomatch z), k _ _ (na J.fu) J.u, Paired.mapP J.up fun _ _ z => kd z (fun _ z => nomatch z),
    J.bk.keep (fun _ _ _ _ h _ => kd h (fun _ z => nomatch z)) (fun _ _ h => kd h (fun _ z => nomatch z)) (fun _ _ h => kd h (fun _ z => nomatch z)), J.h, J.n, J.z, J.ne, fr J.o J.fj, fr J.m J.fm, fr J.u J.fu, fr J.bk.t J.ft, fr q1 J.fp⟩, e⟩
end
theorem same_off {F H : Hp} {x : Addr} {o : HO} (s : Same F H) (n : F x = none) : Same F (upd H x o) := fun b u e => by rw [upd_ne (ne_of_none e n)]; exact s b u e
theorem KB.frame {F H H' : Hp} {td pd : Addr} (k : KB td pd H H') (s : Same F H) (n1 : F td = none) (n2 : F pd = none) : Same F H' := k.same s n1 n2
abbrev sJInit : Stmt := inClass (top 58) 0
theorem scJInit : FnScope ["self", "letters", "room"] ["self", "letters", "room"] (defScope sJInit) := ⟨rfl, rfl, rfl, by decide +kernel, rfl, by decide +kernel, by decide +kernel⟩
def spJInit (CJ C CP : Addr) : Sp := fun vs H Q _ => ∃ (F : Hp) (p dx : Addr) (al : List Nat) (room : Nat), vs = [.ref p, .str (S al), .int (room : Int)] ∧ H p = some (.ins CJ dx []) ∧ AlphOk al ∧ room ≤ 100 ∧ Same F H ∧ F p = none ∧
  ∀ H', Same F H' → JrnAt F H' p CJ C CP al room [[]] [] 0 → Q .non H'
abbrev sJLen : Stmt := inClass (top 58) 1
theorem scJLen : FnScope ["self"] ["self"] (defScope sJLen) := ⟨rfl, rfl, rfl, by decide +kernel, rfl, by decide +kernel, by decide +kernel⟩
def spJLen (CJ C CP : Addr) : Sp := fun vs H Q _ => ∃ (F : Hp) (j : Addr) (al : List Nat) (room : Nat) (B : List (List Ent)) (st : List Stp) (n : Nat), vs = [.ref j] ∧ JrnP F H j CJ C CP al room B st n ∧ Q (.int (n : Int)) H
abbrev sJAt : Stmt := inClass (top 58) 2
theorem scJAt : FnScope ["self", "count", "book", "step"] ["self", "count"] (defScope sJAt) := ⟨rfl, rfl, rfl, by decide +kernel, rfl, by decide +kernel, by decide +kernel⟩
def spJAt (c : Nat → Addr) (CJ C CP : Addr) : Sp := fun vs H Q E => ∃ (F : Hp) (j : Addr) (al : List Nat) (room : Nat) (B : List (List Ent)) (st : List Stp) (n : Nat) (m : Int), vs = [.ref j, .int m] ∧ JrnP F H j CJ C CP al room B st n ∧
  (¬ (0 ≤ m ∧ m ≤ (n : Int)) → ErrF E (c 8) "state" (.int m) H) ∧ (0 ≤ m → m ≤ (n : Int) → ∀ es p H', B[m.toNat]? = some es → Same H H' → BookN H H' p C CP al room es → Q (.ref p) H')
abbrev sJBook : Stmt := inClass (top 58) 3
theorem scJBook : FnScope ["self"] ["self"] (defScope sJBook) := ⟨rfl, rfl, rfl, by decide +kernel, rfl, by decide +kernel, by decide +kernel⟩
def spJBook (CJ C CP : Addr) : Sp := fun vs H Q _ => ∃ (F : Hp) (j : Addr) (al : List Nat) (room : Nat) (B : List (List Ent)) (st : List Stp) (n : Nat), vs = [.ref j] ∧ JrnP F H j CJ C CP al room B st n ∧
  (∀ es p H', B[n]? = some es → Same H H' → BookN H H' p C CP al room es → Q (.ref p) H')
abbrev sJMake : Stmt := inClass (top 58) 4
theorem scJMake : FnScope ["self", "step"] ["self", "step"] (defScope sJMake) := ⟨rfl, rfl, rfl, by decide +kernel, rfl, by decide +kernel, by decide +kernel⟩
/-- what a step does -/
def JDo (c : Nat → Addr) (CJ C CP : Addr) (F : Hp) (j : Addr) (s : Stp) (H : Hp) (Q : VK) (E : XK) : Prop := ∃ (al : List Nat) (room : Nat) (B : List (List Ent)) (st : List Stp) (n : Nat) (es : List Ent), JrnAt F H j CJ C CP al room B st n ∧ Same F H ∧ s.Fit al ∧ n < 1000 ∧ B[n]? = some es ∧
  (∀ f, stepE al room es s = .inl f → ErrO E c f H) ∧ (∀ es', stepE al room es s = .inr es' → ∀ H', Same F H' → JrnAt F H' j CJ C CP al room (B.take (n + 1) ++ [es']) (st.take n ++ [s]) (n + 1) → Q .non H')
def spJMake (c : Nat → Addr) (CJ C CP : Addr) : Sp := fun vs H Q E => ∃ (F : Hp) (j t : Addr) (s : Stp), vs = [.ref j, .ref t] ∧ H t = some (.tup s.row) ∧ JDo c CJ C CP F j s H Q E
abbrev sJNote : Stmt := inClass (top 58) 5
theorem scJNote : FnScope ["self", "name", "text"] ["self", "name", "text"] (defScope sJNote) := ⟨rfl, rfl, rfl, by decide +kernel, rfl, by decide +kernel, by decide +kernel⟩
def spJNote (c : Nat → Addr) (CJ C CP : Addr) : Sp := fun vs H Q E => ∃ (F : Hp) (j : Addr) (n t : List Nat), vs = [.ref j, .str (S n), .str (S t)] ∧ JDo c CJ C CP F j (.note n t) H Q E
abbrev sJStrike : Stmt := inClass (top 58) 6
theorem scJStrike : FnScope ["self", "name"] ["self", "name"] (defScope sJStrike) := ⟨rfl, rfl, rfl, by decide +kernel, rfl, by decide +kernel, by decide +kernel⟩
def spJStrike (c : Nat → Addr) (CJ C CP : Addr) : Sp := fun vs H Q E => ∃ (F : Hp) (j : Addr) (n : List Nat), vs = [.ref j, .str (S n)] ∧ JDo c CJ C CP F j (.strike n) H Q E
abbrev sJRen : Stmt := inClass (top 58) 7
theorem scJRen : FnScope ["self", "old", "new"] ["self", "old", "new"] (defScope sJRen) := ⟨rfl, rfl, rfl, by decide +kernel, rfl, by decide +kernel, by decide +kernel⟩
def spJRen (c : Nat → Addr) (CJ C CP : Addr) : Sp := fun vs H Q E => ∃ (F : Hp) (j : Addr) (o n : List Nat), vs = [.ref j, .str (S o), .str (S n)] ∧ JDo c CJ C CP F j (.ren o n) H Q E
abbrev sJUndo : Stmt := inClass (top 58) 8
theorem scJUndo : FnScope ["self"] ["self"] (defScope sJUndo) := ⟨rfl, rfl, rfl, by decide +kernel, rfl, by decide +kernel, by decide +kernel⟩
def spJUndo (CJ C CP : Addr) : Sp := fun vs H Q _ => ∃ (F : Hp) (j : Addr) (al : List Nat) (room : Nat) (B : List (List Ent)) (st : List Stp) (n : Nat), vs = [.ref j] ∧ JrnAt F H j CJ C CP al room B st n ∧ Same F H ∧ (n = 0 → Q (.bl false) H) ∧
  (∀ m, n = m + 1 → ∀ H', Same F H' → JrnAt F H' j CJ C CP al room B st m → Q (.bl true) H')
abbrev sJRedo : Stmt := inClass (top 58) 9
theorem scJRedo : FnScope ["self", "step"] ["self"] (defScope sJRedo) := ⟨rfl, rfl, rfl, by decide +kernel, rfl, by decide +kernel, by decide +kernel⟩
def spJRedo (CJ C CP : Addr) : Sp := fun vs H Q _ => ∃ (F : Hp) (j : Addr) (al : List Nat) (room : Nat) (B : List (List Ent)) (st : List Stp) (n : Nat), vs = [.ref j] ∧ JrnAt F H j CJ C CP al room B st n ∧ Same F H ∧ (n = st.length → Q (.bl false) H) ∧
  (n < st.length → ∀ H', Same F H' → JrnAt F H' j CJ C CP al room B st (n + 1) → Q (.bl true) H')
end W8

set_option Elab.async false
set_option linter.all false
set_option maxRecDepth 100000
set_option maxHeartbeats 4000000
namespace W8
open PySem PySem.Spec PyProof.Rows L2 L2E
theorem BookAt.emp {H : Hp} {p dx td pd f1 f2 C CP a C' jx : Addr} {al : List Nat} {room : Nat} {fs : List (Str × V)} {o : HO} (h : BookAt H p dx td pd f1 f2 C CP al room []) (hx : H a = some (.ins C' jx fs)) (hn : p ≠ a) : BookAt (upd H a o) p dx td pd f1 f2 C CP al room [] := by
  obtain ⟨kps, q1, q2⟩ := h.q
  exact ⟨by rw [upd_ne hn]; exact h.o, by rw [upd_ne (ne_of h.t hx (fun z => nomatch z))]; exact h.t, ⟨kps, by rw [upd_ne (ne_of q1 hx (fun z => nomatch z))]; exact q1, by cases q2; exact .nil⟩, h.n, h.A, h.r, h.l, h.v⟩
section
variable {F H : Hp} {j jx ml ul b dx td pd f1 f2 CJ C CP : Addr} {al : List Nat} {room : Nat} {B : List (List Ent)} {st : List Stp} {n : Nat} {ms us : List Addr} {es : List Ent}
theorem JP.len (J : JP F H j jx ml ul b dx td pd f1 f2 CJ C CP al room B st n ms us es) : ms.length = n := by
  rw [Paired.length J.mp, List.length_take]
  have := J.n
  omega
theorem JP.lenU (J : JP F H j jx ml ul b dx td pd f1 f2 CJ C CP al room B st n ms us es) : us.length = st.length - n := by
  rw [Paired.length J.up, List.length_reverse, List.length_drop]
end
section
variable {P : Program} {w : World} {K : PySem.W.Frag} {mg : Str → Option Value} {base : Heap} {c : Nat → Addr} {fT fN fL : Addr}
theorem ok_jinit {f CJ C CP : Addr} {fd : FuncData} {dvs : List V} {kws : List (Str × V)} (F : FunD K "__init__" "Journal.__init__" (defArgs sJInit) (defBody sJInit) (defScope sJInit) dvs kws f fd) (T : BkT K mg C) (TJ : JrT K mg CJ) (M : BkM P w K mg base c C CP) :
    FnOk P w K mg base CX0 4 f fd ["self", "letters", "room"] (spJInit CJ C CP) := by
  refine F.ok (CX := CX0) scJInit (fun vs H Q E h => ?_) (fun cdv A outer s H vs Q E hr h => ?_)
  · obtain ⟨F, p, dx, al, room, rfl, _⟩ := h
    rfl
  obtain ⟨F, p, jx, al, room, rfl, hp, hA, hrm, sF, fp, q⟩ := h
  obtain ⟨fb, fdb, Fb, mb, bb⟩ := M.new.ex
  refine ⟨_, (pss_cons (ps_fld (pv 0) (pe_make mb Fb hr (by rfl) T.mgC bb .nil pass0 (pa_cons (pv 1) (pa_cons (pv 2) pa_nil))) rfl)
    (pss_cons (ps_fld (pv 0) (pe_lst pa_nil) rfl)
    (pss_cons (ps_fld (pv 0) (pe_lst pa_nil) rfl)
    (pss_one (ps_fld (pv 0) (pv 1) rfl))))), ?_⟩
  refine ⟨_, rfl, _, rfl, fun x dx hx hdx hne => ?_⟩
  have sb : Same H (upd (upd H dx (.own x)) x (.ins C dx [])) := (same_new hdx (.own x)).trans (same_new (by rw [upd_ne (Ne.symm hne)]; exact hx) _)
  refine ⟨x, dx, al, room, rfl, upd_same, hA, hrm, fun H1 td pd f1 f2 bt nt np B1 => ⟨rfl, ?_⟩⟩
  have nt := sb.free nt
  have np := sb.free np
  have s1 : Same H H1 := fun b o e => bt b o (fun z => by rw [z, hx] at e; cases e) (sb b o e)
  clear bt sb
  have hp1 := s1 _ _ hp
  have nxp : x ≠ p := fun z => by rw [z, hp] at hx; cases hx
  have sF1 : Same F H1 := sF.trans s1
  have ft : F td = none := sF.free nt
  have fpd : F pd = none := sF.free np
  clear hne hdx hx s1 nt np hp sF
  refine ⟨_, rfl, p, CJ, jx, _, rfl, hp1, TJ.cl, TJ.nB, (by show 0 < 1000; decide), ?_⟩
  have B2 := B1.emp (o := .ins CJ jx (putF "_latest" (.ref x) [])) hp1 nxp
  have sF2 : Same F (upd H1 p (.ins CJ jx (putF "_latest" (.ref x) []))) := same_off sF1 fp
  have hp2 : upd H1 p (.ins CJ jx (putF "_latest" (.ref x) [])) p = some (.ins CJ jx (putF "_latest" (.ref x) [])) := upd_same
  generalize upd H1 p (.ins CJ jx (putF "_latest" (.ref x) [])) = H2 at *
  clear B1 hp1 sF1
  refine ⟨Nat.zero_le _, fun ml hml => ?_⟩
  have s3 := same_new hml (.lst [])
  have fm : F ml = none := sF2.free hml
  have hm3 : upd H2 ml (.lst []) ml = some (.lst []) := upd_same
  generalize upd H2 ml (.lst []) = H3 at *
  refine ⟨_, rfl, p, CJ, jx, _, rfl, s3 _ _ hp2, TJ.cl, TJ.nM, (by show 1 < 1000; decide), ?_⟩
  have B4 := (B2.mono s3).emp (o := .ins CJ jx (putF "_made" (.ref ml) (putF "_latest" (.ref x) []))) (s3 _ _ hp2) nxp
  have sF4 : Same F (upd H3 p (.ins CJ jx (putF "_made" (.ref ml) (putF "_latest" (.ref x) [])))) := same_off (sF2.trans s3) fp
  have hp4 : upd H3 p (.ins CJ jx (putF "_made" (.ref ml) (putF "_latest" (.ref x) []))) p = some (.ins CJ jx (putF "_made" (.ref ml) (putF "_latest" (.ref x) []))) := upd_same
  have hm4 : upd H3 p (.ins CJ jx (putF "_made" (.ref ml) (putF "_latest" (.ref x) []))) ml = some (.lst []) := by rw [upd_ne (ne_of hm3 (s3 _ _ hp2) (fun z => nomatch z))]; exact hm3
  generalize upd H3 p (.ins CJ jx (putF "_made" (.ref ml) (putF "_latest" (.ref x) []))) = H4 at *
  clear B2 hp2 sF2 s3 hm3 hml
  refine ⟨Nat.zero_le _, fun ul hul => ?_⟩
  have s5 := same_new hul (.lst [])
  have fu : F ul = none := sF4.free hul
  have hu5 : upd H4 ul (.lst []) ul = some (.lst []) := upd_same
  have nmu : ml ≠ ul := ne_of_none hm4 hul
  generalize upd H4 ul (.lst []) = H5 at *
  refine ⟨_, rfl, p, CJ, jx, _, rfl, s5 _ _ hp4, TJ.cl, TJ.nU, (by show 2 < 1000; decide), ?_⟩
  have B6 := (B4.mono s5).emp (o := .ins CJ jx (putF "_undone" (.ref ul) (putF "_made" (.ref ml) (putF "_latest" (.ref x) [])))) (s5 _ _ hp4) nxp
  have sF6 : Same F (upd H5 p (.ins CJ jx (putF "_undone" (.ref ul) (putF "_made" (.ref ml) (putF "_latest" (.ref x) []))))) := same_off (sF4.trans s5) fp
  have hp6 : upd H5 p (.ins CJ jx (putF "_undone" (.ref ul) (putF "_made" (.ref ml) (putF "_latest" (.ref x) [])))) p = some (.ins CJ jx (putF "_undone" (.ref ul) (putF "_made" (.ref ml) (putF "_latest" (.ref x) [])))) := upd_same
  have hm6 : upd H5 p (.ins CJ jx (putF "_undone" (.ref ul) (putF "_made" (.ref ml) (putF "_latest" (.ref x) [])))) ml = some (.lst []) := by rw [upd_ne (ne_of (s5 _ _ hm4) (s5 _ _ hp4) (fun z => nomatch z))]; exact s5 _ _ hm4
  have hu6 : upd H5 p (.ins CJ jx (putF "_undone" (.ref ul) (putF "_made" (.ref ml) (putF "_latest" (.ref x) [])))) ul = some (.lst []) := by rw [upd_ne (ne_of hu5 (s5 _ _ hp4) (fun z => nomatch z))]; exact hu5
  generalize upd H5 p (.ins CJ jx (putF "_undone" (.ref ul) (putF "_made" (.ref ml) (putF "_latest" (.ref x) [])))) = H6 at *
  refine ⟨_, rfl, _, rfl, p, CJ, jx, _, rfl, hp6, TJ.cl, TJ.nL, (by show 3 < 1000; decide), ?_⟩
  refine q _ (same_off sF6 fp) ⟨jx, ml, ul, x, dx, td, pd, f1, f2, [], [], [], ⟨by rw [upd_same]; rfl, ?_, .nil, ?_, .nil, B6.emp hp6 nxp, Hist.one, Nat.zero_le _, Nat.zero_le _, nmu, fp, fm, fu, ft, fpd⟩, rfl⟩
  · rw [upd_ne (ne_of hm6 hp6 (fun z => nomatch z))]; exact hm6
  · rw [upd_ne (ne_of hu6 hp6 (fun z => nomatch z))]; exact hu6
theorem ok_jlen {f CJ C CP : Addr} {fd : FuncData} (F : Fun K "__len__" "Journal.__len__" sJLen f fd) (tl : mg "len" = none) (TJ : JrT K mg CJ) : FnOk P w K mg base CX0 1 f fd ["self"] (spJLen CJ C CP) := by
  refine F.ok scJLen (fun vs H Q E h => ?_) (fun cdv A outer s H vs Q E hr h => ?_)
  · obtain ⟨F, j, al, room, B, st, n, rfl, _⟩ := h
    rfl
  obtain ⟨F, j, al, room, B, st, n, rfl, ⟨jx, ml, ul, b, dx, td, pd, f1, f2, ms, us, es, J⟩, q⟩ := h
  refine ⟨_, (pss_one (ps_ret (pB1 call_len_seq tl (pe_fld (pv 0) rfl)))), ?_⟩
  refine ⟨_, rfl, j, CJ, jx, _, _, rfl, J.o, TJ.cl, TJ.nM, jf_made _ _ _ _, ml, _, rfl, .inl (SqL.of J.m), ?_⟩
  rw [List.length_map, J.len]
  exact q
theorem ok_jat {f CJ C CP p0 g fS : Addr} {fd fdg : FuncData} (F : Fun K "book_at" "Journal.book_at" sJAt f fd) (T : BkT K mg C) (TJ : JrT K mg CJ) (xS : PySem.XM.XmC P K (c 8) (c 8) fS "state") (mS : mg "StateError" = some (.ref (c 8))) (tsup : mg "super" = none) (I : BkI K mg C p0 g) (M : BkM P w K mg base c C CP)
    (G : FnOk P w K mg base CX0 1 g fdg ["self"] (getSp C "_room")) (bg : Binds K fdg ["self"] []) (cst : CalX P w K mg base "stepped" 10 ["book", "step"] (spStepped c C CP)) :
    FnOk P w K mg base (L2N.CX P w) 11 f fd ["self", "count"] (spJAt c CJ C CP) := by
  refine okN F scJAt (fun vs H Q E h => ?_) (fun cdv A outer s H vs Q E hr h => ?_)
  · obtain ⟨F, j, al, room, B, st, n, m, rfl, _⟩ := h
    rfl
  obtain ⟨F, j, al, room, B, st, n, m, rfl, ⟨jx, ml, ul, b, dx, td, pd, f1, f2, ms, us, es, J⟩, eS, q⟩ := h
  obtain ⟨fb, fdb, Fb, mb, bb⟩ := M.new.ex
  refine ⟨_, (pss_cons (ps_if (pt_not (pt_chain op_le op_le pe_int (pv 1) (pB1 call_len_seq T.len (pe_fld (pv 0) rfl))))
      (pss_one (L2N.ps_raise rfl (L2N.takes_of rfl rfl rfl rfl) (L2N.pmk_xm xS hr mS tsup (pa_cons (pv 1) pa_nil))))
      pss_nil)
    (pss_cons (ps_set (i := 2) scJAt.nd rfl (Or.inl rfl) (pe_make mb Fb (hr.mono (by decide)) (by rfl) T.mgC bb .nil pass0 (pa_cons (pe_fld (pv 0) rfl) (pa_cons (pe_prop (dvs := []) (E := E0) (pe_fld (pv 0) rfl) T.cl I.rm G (hr.mono (by decide)) bg .nil pass0 rfl) pa_nil))))
    (pss_cons (ps_for PassesOwn.leaving rfl (pi_list (pe_slice sl_list (pe_fld (pv 0) rfl) po_none (po_some (pv 1)))) (pg_name (i := 3) scJAt.nd rfl (Or.inl rfl))
      (pss_one (ps_set (i := 2) scJAt.nd rfl (Or.inl rfl) (pcallX (E := EN) cst hr passN (pa_cons (pv 2) (pa_cons (pv 3) pa_nil))))))
    (pss_one (ps_ret (pv 2)))))), ?_⟩
  have jl := J.len
  refine ⟨_, rfl, _, _, rfl, rfl, _, rfl, ?_⟩
  refine ite2 (fun h1 => ?_) (fun h1 => ?_)
  rotate_left
  · refine ⟨_, rfl, ite2 (fun _ => ?_) (fun z => absurd rfl z)⟩
    exact ⟨_, rfl, _, rfl, fun d hd => (eS (fun z => h1 (decide_eq_true z.1))).go (Same.refl H) hd⟩
  have h0 : 0 ≤ m := of_decide_eq_true h1
  refine ⟨_, rfl, j, CJ, jx, _, _, rfl, J.o, TJ.cl, TJ.nM, jf_made _ _ _ _, ml, _, rfl, .inl (SqL.of J.m), _, _, rfl, rfl, _, rfl, ?_⟩
  rw [List.length_map, jl]
  refine ite2 (fun h2 => ?_) (fun h2 => ?_)
  · exact ⟨_, rfl, _, rfl, fun d hd => (eS (fun z => decF h2 z.2)).go (Same.refl H) hd⟩
  have hm : m ≤ (n : Int) := decT h2
  have q := q h0 hm
  obtain ⟨k, rfl⟩ : ∃ k : Nat, m = (k : Int) := ⟨m.toNat, by omega⟩
  have hk : k ≤ n := by omega
  rw [Int.toNat_natCast] at q
  have hkl : k ≤ st.length := Nat.le_trans hk J.n
  obtain ⟨ek, hek⟩ := J.h.at_ hkl
  have q := q ek
  refine ⟨_, rfl, j, CJ, jx, _, _, rfl, J.o, TJ.cl, TJ.nL, jf_letters _ _ _ _, _, rfl, j, CJ, jx, _, _, rfl, J.o, TJ.cl, TJ.nB, jf_latest _ _ _ _, b, dx, _, rfl, J.bk.o, b, dx, _, _, rfl, J.bk.o, bk_room _ _ _ _ _ _, fun x dx' hx hdx hne => ?_⟩
  have sb : Same H (upd (upd H dx' (.own x)) x (.ins C dx' [])) := (same_new hdx (.own x)).trans (same_new (by rw [upd_ne (Ne.symm hne)]; exact hx) _)
  refine ⟨x, dx', al, room, rfl, upd_same, J.bk.A, J.bk.r, fun H1 td' pd' f1' f2' bt nt np B' => ⟨rfl, ?_⟩⟩
  have nt := sb.free nt
  have np := sb.free np
  have s1 : Same H H1 := fun b o e => bt b o (fun z => by rw [z, hx] at e; cases e) (sb b o e)
  clear bt sb
  refine ⟨_, rfl, j, CJ, jx, _, _, rfl, s1 _ _ J.o, TJ.cl, TJ.nM, jf_made _ _ _ _, _, rfl, _, rfl, ml, _, rfl, SqL.of (s1 _ _ J.m), fun y hy => ?_⟩
  rw [cut_take, ← List.map_take]
  have s2 := s1.trans (same_new hy (.lst ((ms.take k).map V.ref)))
  have hy2 : upd H1 y (.lst ((ms.take k).map V.ref)) y = some (.lst ((ms.take k).map V.ref)) := upd_same
  have B2 := B'.mono (same_new hy (.lst ((ms.take k).map V.ref)))
  have hy0 : H y = none := s1.free hy
  generalize upd H1 y (.lst ((ms.take k).map V.ref)) = H2 at *
  have hlk : (ms.take k).length = k := by rw [List.length_take]; omega
  refine ⟨y, rfl, ⟨_, SqL.of hy2⟩, ?_⟩
  refine L2.for_it (L2.walk_list (xs := (ms.take k).map V.ref)) (fun i σ H' => ∃ (x : Addr) (z : Option V) (e : List Ent), σ = [some (.ref j), some (.int (k : Int)), some (.ref x), z] ∧ Same H H' ∧ H' y = some (.lst ((ms.take k).map V.ref)) ∧ B[i]? = some e ∧ BookN H H' x C CP al room e)
    ⟨x, none, [], rfl, s2, hy2, J.h.h0, dx', td', pd', f1', f2', B2, hx, nt, np⟩ (fun _ _ _ _ ⟨_, _, _, _, _, h, _⟩ => SqL.of h) ?_ ?_
  · rintro i v σ H3 H4 hi ⟨x1, z, e, rfl, s3, hy3, hBi, dx1, td1, pd1, f11, f21, B3, nx1, nt1, np1⟩ ⟨rfl, hv⟩
    rw [List.length_map, hlk] at hi
    rw [List.getElem?_map, List.getElem?_take_of_lt hi] at hv
    cases ht : ms[i]? with
    | none => rw [ht] at hv; cases hv
    | some t =>
      rw [ht] at hv
      cases hv
      obtain ⟨s', hs', hst⟩ := L2.paired_get J.mp ht
      rw [List.getElem?_take_of_lt (by omega)] at hs'
      obtain ⟨e1, e2, g1, g2, g3⟩ := J.h.go i s' hs'
      rw [hBi] at g1
      cases g1
      have bo := J.h.ok hBi
      refine ⟨_, rfl, _, rfl, x1, dx1, td1, pd1, f11, f21, t, al, room, e, s', rfl, B3, bo.u, s3 _ _ hst, step_fit bo g3, fun fl hf => ?_, fun es' he => ?_⟩
      · rw [g3] at hf
        cases hf
      · rw [g3] at he
        cases he
        refine ⟨fun H5 k5 B5 => ⟨x1, _, e2, rfl, k5.same s3 nt1 np1, k5 _ _ (ne_of hy3 B3.t (fun z => nomatch z)) (by obtain ⟨kps, q1, q2⟩ := B3.q; exact ne_of hy3 q1 (fun z => nomatch z)) hy3, g2, dx1, td1, pd1, f11, f21, B5, nx1, nt1, np1⟩, fun p' H5 s5 bn => ?_⟩
        obtain ⟨dx5, td5, pd5, f15, f25, B5, n5, n6, n7⟩ := bn
        exact ⟨p', _, e2, rfl, s3.trans s5, s5 _ _ hy3, g2, dx5, td5, pd5, f15, f25, B5, s3.free n5, s3.free n6, s3.free n7⟩
  · rintro σ H3 ⟨x1, z, e, rfl, s3, hy3, hBi, bn⟩
    rw [List.length_map, hlk, hek] at hBi
    cases hBi
    exact ⟨_, rfl, q x1 H3 hek s3 bn⟩
theorem ok_jbook {f CJ C CP : Addr} {fd : FuncData} (F : Fun K "book" "Journal.book" sJBook f fd) (tl : mg "len" = none) (TJ : JrT K mg CJ) (ma : MCalX P w K mg base CJ "book_at" 11 ["self", "count"] (spJAt c CJ C CP)) : FnOk P w K mg base CX0 12 f fd ["self"] (spJBook CJ C CP) := by
  refine F.ok scJBook (fun vs H Q E h => ?_) (fun cdv A outer s H vs Q E hr h => ?_)
  · obtain ⟨F, j, al, room, B, st, n, rfl, _⟩ := h
    rfl
  obtain ⟨F, j, al, room, B, st, n, rfl, JJ, q⟩ := h
  obtain ⟨f1, fd1, F1, m1, b1⟩ := ma.ex
  refine ⟨_, (pss_one (ps_ret (pe_meth (E := EN) (pv 0) TJ.cl m1 F1 hr b1 .nil passN (pa_cons (pB1 call_len_seq tl (pe_fld (pv 0) rfl)) pa_nil)))), ?_⟩
  obtain ⟨jx, ml, ul, b, dx, td, pd, f1, f2, ms, us, es, J⟩ := JJ
  refine ⟨_, rfl, j, jx, _, rfl, J.o, jf_no _ _ _ _ (by decide +kernel), _, rfl, j, CJ, jx, _, _, rfl, J.o, TJ.cl, TJ.nM, jf_made _ _ _ _, ml, _, rfl, .inl (SqL.of J.m), ?_⟩
  rw [List.length_map, J.len]
  refine ⟨F, j, al, room, B, st, n, n, rfl, ⟨jx, ml, ul, b, dx, td, pd, f1, f2, ms, us, es, J⟩, fun z => absurd ⟨by omega, by omega⟩ z, fun _ _ es' p H' e s bn => q es' p H' (by rw [Int.toNat_natCast] at e; exact e) s bn⟩
end
end W8

set_option Elab.async false
set_option linter.all false
set_option maxRecDepth 100000
set_option maxHeartbeats 4000000
namespace W8
open PySem PySem.Spec PyProof.Rows L2 L2E
theorem paired_unsnoc {α β : Type} {R : α → β → Prop} {y : β} {xs : List α} {ys : List β} (h : Paired R xs (ys ++ [y])) : ∃ zs x, xs = zs ++ [x] ∧ Paired R zs ys ∧ R x y := by
  induction ys generalizing xs with
  | nil =>
    cases h with
    | cons a b =>
      cases b
      exact ⟨[], _, rfl, .nil, a⟩
  | cons z zs ih =>
    cases h with
    | cons a b =>
      obtain ⟨ws, x, rfl, p, q⟩ := ih b
      exact ⟨_ :: ws, x, rfl, .cons a p, q⟩
theorem snoc_get {α : Type} (xs : List α) (x : α) : (xs ++ [x])[(xs ++ [x]).length - 1]? = some x := by
  rw [List.length_append]
  show (xs ++ [x])[xs.length + 1 - 1]? = some x
  rw [Nat.add_sub_cancel, List.getElem?_append_right (Nat.le_refl _), Nat.sub_self]
  rfl
theorem take_snoc {α : Type} {xs : List α} {n : Nat} {x : α} (h : xs[n]? = some x) : xs.take (n + 1) = xs.take n ++ [x] := by
  rw [List.take_add_one, h]
  rfl
theorem drop_snoc {α : Type} {xs : List α} {n : Nat} {x : α} (h : xs[n]? = some x) : (xs.drop n).reverse = (xs.drop (n + 1)).reverse ++ [x] := by
  obtain ⟨h1, h2⟩ := List.getElem?_eq_some_iff.mp h
  rw [List.drop_eq_getElem_cons h1, h2, List.reverse_cons]
section
variable {P : Program} {w : World} {K : PySem.W.Frag} {mg : Str → Option Value} {base : Heap} {c : Nat → Addr} {fT fN fL : Addr}
theorem ok_jmake {f CJ C CP : Addr} {fd : FuncData} (F : Fun K "make" "Journal.make" sJMake f fd) (TJ : JrT K mg CJ) (cst : CalX P w K mg base "stepped" 10 ["book", "step"] (spStepped c C CP)) :
    FnOk P w K mg base (L2N.CX P w) 11 f fd ["self", "step"] (spJMake c CJ C CP) := by
  refine okN F scJMake (fun vs H Q E h => ?_) (fun cdv A outer sh H vs Q E hr h => ?_)
  · obtain ⟨F, j, t, s, rfl, _⟩ := h
    rfl
  obtain ⟨F, j, t, s, rfl, ht, al, room, B, st, n, es, ⟨jx, ml, ul, b, dx, td, pd, f1, f2, ms, us, es', J, hes'⟩, sF, fit, hn, hes, eF, q⟩ := h
  rw [hes] at hes'
  cases hes'
  refine ⟨_, (C8.pss_cut (ps_fld (pv 0) (pcallX (E := E) cst hr (L2N.passes_call (L2N.takes_of rfl rfl rfl rfl) (fun _ _ _ _ h => h)) (pa_cons (pe_fld (pv 0) rfl) (pa_cons (pv 1) pa_nil))) rfl)
    (pss_cons (ps_expr (pe_bm PySem.F.plainAttrs_list PySem.F.slot_list_append PySem.F.type_list_append mt_append (pe_fld (pv 0) rfl) (pa_cons (pv 1) pa_nil)))
    (pss_one (ps_fld (pv 0) (pe_lst pa_nil) rfl)))), ?_⟩
  have nmj : ml ≠ j := ne_of J.m J.o (fun z => nomatch z)
  refine ⟨fun σ' H' => ∃ (b' dx' td' pd' f1' f2' : Addr) (es' : List Ent), σ' = [some (.ref j), some (.ref t)] ∧ Same F H' ∧ H' j = some (.ins CJ jx (jf (.ref b') (.ref ml) (.ref ul) (.str (S al)))) ∧ H' ml = some (.lst (ms.map V.ref)) ∧ Stps H' ms (st.take n) ∧ H' t = some (.tup s.row) ∧
      BookAt H' b' dx' td' pd' f1' f2' C CP al room es' ∧ F td' = none ∧ F pd' = none ∧ stepE al room es s = .inr es', ?_, ?_⟩
  · refine ⟨_, rfl, j, CJ, jx, _, _, rfl, J.o, TJ.cl, TJ.nB, jf_latest _ _ _ _, _, rfl, b, dx, td, pd, f1, f2, t, al, room, es, s, rfl, J.bk, (J.h.ok hes).u, ht, fit, fun fl hf => eF fl hf, fun es' he => ⟨fun H2 k2 B2 => ?_, fun p' H2 s2 bn => ?_⟩⟩
    · obtain ⟨kps, q1, q2⟩ := J.bk.q
      have kk : ∀ {x : Addr} {o : HO}, H x = some o → (∀ xs, o ≠ .dK xs) → H2 x = some o := fun {x o} e n => k2 _ _ (ne_of e J.bk.t (fun z => n _ z)) (ne_of e q1 (fun z => n _ z)) e
      have hj2 := kk J.o (fun _ z => nomatch z)
      refine ⟨_, rfl, j, CJ, jx, _, rfl, hj2, TJ.cl, TJ.nB, (by show 4 < 1000; decide), ?_⟩
      refine ⟨b, dx, td, pd, f1, f2, es', rfl, same_off (k2.frame sF J.ft J.fp) J.fj, by rw [upd_same]; rfl, ?_, ?_, ?_, B2.updI hj2 rfl, J.ft, J.fp, he⟩
      · rw [upd_ne nmj]; exact kk J.m (fun _ z => nomatch z)
      · exact Stps.upd (Paired.mapP J.mp fun _ _ z => kk z (fun _ z => nomatch z)) hj2 (fun _ z => nomatch z)
      · rw [upd_ne (ne_of (kk ht (fun _ z => nomatch z)) hj2 (fun z => nomatch z))]; exact kk ht (fun _ z => nomatch z)
    · obtain ⟨dx5, td5, pd5, f15, f25, B5, n5, n6, n7⟩ := bn
      have hj2 := s2 _ _ J.o
      refine ⟨_, rfl, j, CJ, jx, _, rfl, hj2, TJ.cl, TJ.nB, (by show 4 < 1000; decide), ?_⟩
      refine ⟨p', dx5, td5, pd5, f15, f25, es', rfl, same_off (sF.trans s2) J.fj, by rw [upd_same]; rfl, ?_, (J.mp.same s2).upd hj2 (fun _ z => nomatch z), ?_, B5.updI hj2 rfl, sF.free n6, sF.free n7, he⟩
      · rw [upd_ne nmj]; exact s2 _ _ J.m
      · rw [upd_ne (ne_of (s2 _ _ ht) hj2 (fun z => nomatch z))]; exact s2 _ _ ht
  rintro σ' H2 ⟨b', dx', td', pd', f1', f2', es', rfl, sF2, hj2, hm2, hms2, ht2, B2, ftd, fpd, he⟩
  have ml_len : ms.length = n := J.len
  refine ⟨_, rfl, j, CJ, jx, _, _, rfl, hj2, TJ.cl, TJ.nM, jf_made _ _ _ _, .inl ⟨rfl, _, SqL.of hm2⟩, _, rfl, ml, _, _, rfl, rfl, hm2, small_lt (by rw [List.length_map]; omega), ?_⟩
  have sF3 : Same F (upd H2 ml (.lst (ms.map V.ref ++ [.ref t]))) := same_off sF2 J.fm
  have hm3 : upd H2 ml (.lst (ms.map V.ref ++ [.ref t])) ml = some (.lst ((ms ++ [t]).map V.ref)) := by rw [upd_same, List.map_append]; rfl
  have hj3 : upd H2 ml (.lst (ms.map V.ref ++ [.ref t])) j = some (.ins CJ jx (jf (.ref b') (.ref ml) (.ref ul) (.str (S al)))) := by rw [upd_ne (Ne.symm nmj)]; exact hj2
  have hms3 : Stps (upd H2 ml (.lst (ms.map V.ref ++ [.ref t]))) (ms ++ [t]) (st.take n ++ [s]) := paired_snoc (hms2.upd hm2 (fun _ z => nomatch z)) (by rw [upd_ne (ne_of ht2 hm2 (fun z => nomatch z))]; exact ht2)
  have B3 := B2.updL (o := .lst (ms.map V.ref ++ [.ref t])) hm2
  generalize upd H2 ml (.lst (ms.map V.ref ++ [.ref t])) = H3 at *
  refine ⟨Nat.zero_le _, fun u' hu' => ?_⟩
  have s4 := same_new hu' (.lst [])
  have fu' : F u' = none := sF3.free hu'
  have hu4 : upd H3 u' (.lst []) u' = some (.lst []) := upd_same
  have nmu : ml ≠ u' := ne_of_none hm3 hu'
  generalize upd H3 u' (.lst []) = H4 at *
  have hj4 := s4 _ _ hj3
  refine ⟨_, rfl, j, CJ, jx, _, rfl, hj4, TJ.cl, TJ.nU, (by show 4 < 1000; decide), ?_⟩
  have l2 : (st.take n).length = n := by rw [List.length_take]; have := J.n; omega
  have H9 := J.h.push J.n hes he
  refine q es' he _ (same_off (sF3.trans s4) J.fj) ⟨jx, ml, u', b', dx', td', pd', f1', f2', ms ++ [t], [], es', ⟨by rw [upd_same]; rfl, ?_, ?_, ?_, ?_, (B3.mono s4).updI hj4 rfl, H9, ?_, ?_, nmu, J.fj, J.fm, fu', ftd, fpd⟩, ?_⟩
  · rw [upd_ne nmj]; exact s4 _ _ hm3
  · rw [List.take_of_length_le (by rw [List.length_append, l2]; exact Nat.le_refl _)]
    exact (hms3.same s4).upd hj4 (fun _ z => nomatch z)
  · rw [upd_ne (ne_of hu4 hj4 (fun z => nomatch z))]; exact hu4
  · rw [List.drop_of_length_le (by rw [List.length_append, l2]; exact Nat.le_refl _)]
    exact .nil
  · rw [List.length_append, l2]; exact Nat.le_refl _
  · rw [List.length_append, l2]; show n + 1 ≤ 1000; omega
  · rw [List.getElem?_append_right (by rw [List.length_take]; omega), List.length_take, Nat.min_eq_left (by have := J.h.len; have := J.n; omega), Nat.sub_self]
    rfl
theorem JDo.same {CJ C CP : Addr} {F : Hp} {j : Addr} {s : Stp} {H H' : Hp} {Q : VK} {E : XK} (h : JDo c CJ C CP F j s H Q E) (s' : Same H H') : JDo c CJ C CP F j s H' Q E := by
  obtain ⟨al, room, B, st, n, es, J, sF, fit, hn, hes, eF, q⟩ := h
  exact ⟨al, room, B, st, n, es, J.same s', sF.trans s', fit, hn, hes, fun fl hf => (eF fl hf).mono s', q⟩
theorem ok_jnote {f CJ C CP : Addr} {fd : FuncData} (F : Fun K "note" "Journal.note" sJNote f fd) (TJ : JrT K mg CJ) (mm : MCalX P w K mg base CJ "make" 11 ["self", "step"] (spJMake c CJ C CP)) : FnOk P w K mg base (L2N.CX P w) 12 f fd ["self", "name", "text"] (spJNote c CJ C CP) := by
  refine okN F scJNote (fun vs H Q E h => ?_) (fun cdv A outer sh H vs Q E hr h => ?_)
  · obtain ⟨F, j, n, t, rfl, _⟩ := h
    rfl
  obtain ⟨F, j, n, t, rfl, D⟩ := h
  obtain ⟨f1, fd1, F1, m1, b1⟩ := mm.ex
  refine ⟨_, (pss_one (ps_expr (pe_meth (E := E) (pv 0) TJ.cl m1 F1 hr b1 .nil (L2N.passes_call (L2N.takes_of rfl rfl rfl rfl) (fun _ _ _ _ h => h)) (pa_cons (pe_tup (pa_cons pe_str (pa_cons (pv 1) (pa_cons (pv 2) pa_nil)))) pa_nil)))), ?_⟩
  obtain ⟨jx, ml, ul, b, dx, td, pd, f1', f2, ms, us, es', J⟩ := (D.choose_spec.choose_spec.choose_spec.choose_spec.choose_spec.choose_spec.1).part
  refine ⟨_, rfl, j, jx, _, rfl, J.o, jf_no _ _ _ _ (by decide +kernel), _, rfl, _, rfl, by show 3 ≤ sizeLine; decide, fun x hx => ?_⟩
  exact ⟨F, j, x, .note n t, rfl, upd_same, D.same (same_new hx _)⟩
theorem ok_jstrike {f CJ C CP : Addr} {fd : FuncData} (F : Fun K "strike" "Journal.strike" sJStrike f fd) (TJ : JrT K mg CJ) (mm : MCalX P w K mg base CJ "make" 11 ["self", "step"] (spJMake c CJ C CP)) : FnOk P w K mg base (L2N.CX P w) 12 f fd ["self", "name"] (spJStrike c CJ C CP) := by
  refine okN F scJStrike (fun vs H Q E h => ?_) (fun cdv A outer sh H vs Q E hr h => ?_)
  · obtain ⟨F, j, n, rfl, _⟩ := h
    rfl
  obtain ⟨F, j, n, rfl, D⟩ := h
  obtain ⟨f1, fd1, F1, m1, b1⟩ := mm.ex
  refine ⟨_, (pss_one (ps_expr (pe_meth (E := E) (pv 0) TJ.cl m1 F1 hr b1 .nil (L2N.passes_call (L2N.takes_of rfl rfl rfl rfl) (fun _ _ _ _ h => h)) (pa_cons (pe_tup (pa_cons pe_str (pa_cons (pv 1) (pa_cons pe_str pa_nil)))) pa_nil)))), ?_⟩
  obtain ⟨jx, ml, ul, b, dx, td, pd, f1', f2, ms, us, es', J⟩ := (D.choose_spec.choose_spec.choose_spec.choose_spec.choose_spec.choose_spec.1).part
  refine ⟨_, rfl, j, jx, _, rfl, J.o, jf_no _ _ _ _ (by decide +kernel), _, rfl, by show 3 ≤ sizeLine; decide, fun x hx => ?_⟩
  exact ⟨F, j, x, .strike n, rfl, upd_same, D.same (same_new hx _)⟩
theorem ok_jren {f CJ C CP : Addr} {fd : FuncData} (F : Fun K "rename" "Journal.rename" sJRen f fd) (TJ : JrT K mg CJ) (mm : MCalX P w K mg base CJ "make" 11 ["self", "step"] (spJMake c CJ C CP)) : FnOk P w K mg base (L2N.CX P w) 12 f fd ["self", "old", "new"] (spJRen c CJ C CP) := by
  refine okN F scJRen (fun vs H Q E h => ?_) (fun cdv A outer sh H vs Q E hr h => ?_)
  · obtain ⟨F, j, o, n, rfl, _⟩ := h
    rfl
  obtain ⟨F, j, o, n, rfl, D⟩ := h
  obtain ⟨f1, fd1, F1, m1, b1⟩ := mm.ex
  refine ⟨_, (pss_one (ps_expr (pe_meth (E := E) (pv 0) TJ.cl m1 F1 hr b1 .nil (L2N.passes_call (L2N.takes_of rfl rfl rfl rfl) (fun _ _ _ _ h => h)) (pa_cons (pe_tup (pa_cons pe_str (pa_cons (pv 1) (pa_cons (pv 2) pa_nil)))) pa_nil)))), ?_⟩
  obtain ⟨jx, ml, ul, b, dx, td, pd, f1', f2, ms, us, es', J⟩ := (D.choose_spec.choose_spec.choose_spec.choose_spec.choose_spec.choose_spec.1).part
  refine ⟨_, rfl, j, jx, _, rfl, J.o, jf_no _ _ _ _ (by decide +kernel), _, rfl, _, rfl, by show 3 ≤ sizeLine; decide, fun x hx => ?_⟩
  exact ⟨F, j, x, .ren o n, rfl, upd_same, D.same (same_new hx _)⟩
theorem int0 {n : Nat} (h : decide (V.int (n : Int) = V.int 0) = true) : n = 0 := by
  have e := of_decide_eq_true h
  injection e with e
  omega
theorem int0n {n : Nat} (h : ¬ decide (V.int (n : Int) = V.int 0) = true) : n ≠ 0 := fun z => h (decide_eq_true (by rw [z]; rfl))
theorem ok_jundo {f CJ C CP : Addr} {fd : FuncData} (F : Fun K "undo" "Journal.undo" sJUndo f fd) (tl : mg "len" = none) (TJ : JrT K mg CJ) (mb : MCal P w K mg base CJ "book" 12 ["self"] (spJBook CJ C CP)) : FnOk P w K mg base CX0 13 f fd ["self"] (spJUndo CJ C CP) := by
  refine F.ok scJUndo (fun vs H Q E h => ?_) (fun cdv A outer s H vs Q E hr h => ?_)
  · obtain ⟨F, j, al, room, B, st, n, rfl, _⟩ := h
    rfl
  obtain ⟨F, j, al, room, B, st, n, rfl, ⟨jx, ml, ul, b, dx, td, pd, f1, f2, ms, us, es, J, hes⟩, sF, q0, q⟩ := h
  obtain ⟨fb, fdb, Fb, m1, bb⟩ := mb.ex
  refine ⟨_, (pss_cons (ps_if (pt_cmpR op_eq (pB1 call_len_seq tl (pe_fld (pv 0) rfl)) pe_int (nomark _))
      (pss_one (ps_ret pe_bl))
      pss_nil)
    (pss_cons (ps_expr (pe_bm PySem.F.plainAttrs_list PySem.F.slot_list_append PySem.F.type_list_append mt_append (pe_fld (pv 0) rfl) (pa_cons (pe_bm0 PySem.F.plainAttrs_list PySem.F.slot_list_pop PySem.F.type_list_pop mt_pop (pe_fld (pv 0) rfl)) pa_nil)))
    (pss_cons (ps_fld (pv 0) (pe_meth0 (pv 0) TJ.cl m1 Fb hr bb .nil pass0) rfl)
    (pss_one (ps_ret pe_bl))))), ?_⟩
  refine ⟨_, rfl, j, CJ, jx, _, _, rfl, J.o, TJ.cl, TJ.nM, jf_made _ _ _ _, ml, _, rfl, .inl (SqL.of J.m), rfl, _, rfl, ?_⟩
  rw [List.length_map, J.len]
  refine ite2 (fun h1 => q0 (int0 h1)) (fun h1 => ?_)
  obtain ⟨m, rfl⟩ : ∃ m, n = m + 1 := ⟨n - 1, by have := int0n h1; omega⟩
  have hm : m < st.length := J.n
  have hsm := List.getElem?_eq_getElem hm
  generalize st[m] = sm at hsm
  have hmp := J.mp
  rw [take_snoc hsm] at hmp
  obtain ⟨ms', t, rfl, hmp', ht⟩ := paired_unsnoc hmp
  have hml := J.m
  rw [List.map_append] at hml
  replace hml : H ml = some (.lst (ms'.map V.ref ++ [.ref t])) := hml
  have nmj : ml ≠ j := ne_of J.m J.o (fun z => nomatch z)
  have nuj : ul ≠ j := ne_of J.u J.o (fun z => nomatch z)
  refine ⟨_, rfl, j, CJ, jx, _, _, rfl, J.o, TJ.cl, TJ.nU, jf_undone _ _ _ _, .inl ⟨rfl, _, SqL.of J.u⟩, _, rfl, j, CJ, jx, _, _, rfl, J.o, TJ.cl, TJ.nM, jf_made _ _ _ _, .inl ⟨rfl, _, SqL.of J.m⟩, ml, _, _, rfl, rfl, hml, snoc_get _ _, ?_⟩
  rw [List.dropLast_concat]
  have hz := J.z
  have hul := J.lenU
  refine ⟨ul, _, _, rfl, rfl, by rw [upd_ne (Ne.symm J.ne)]; exact J.u, small_lt (by rw [List.length_map]; omega), ?_⟩
  have sF2 : Same F (upd (upd H ml (.lst (ms'.map V.ref))) ul (.lst (us.map V.ref ++ [.ref t]))) := same_off (same_off sF J.fm) J.fu
  have J2 : JP F (upd (upd H ml (.lst (ms'.map V.ref))) ul (.lst (us.map V.ref ++ [.ref t]))) j jx ml ul b dx td pd f1 f2 CJ C CP al room B st m ms' (us ++ [t]) es := by
    have hu1 : upd H ml (.lst (ms'.map V.ref)) ul = some (.lst (us.map V.ref)) := by rw [upd_ne (Ne.symm J.ne)]; exact J.u
    have tk : ∀ {x : Addr} {xs : List V}, H x = some (.tup xs) → upd (upd H ml (.lst (ms'.map V.ref))) ul (.lst (us.map V.ref ++ [.ref t])) x = some (.tup xs) := fun {x xs} e => by
      rw [upd_ne (ne_of e J.u (fun z => nomatch z)), upd_ne (ne_of e J.m (fun z => nomatch z))]
      exact e
    refine ⟨by rw [upd_ne (Ne.symm nuj), upd_ne (Ne.symm nmj)]; exact J.o, by rw [upd_ne J.ne, upd_same], Paired.mapP hmp' fun _ _ z => tk z, by rw [upd_same, List.map_append]; rfl, ?_, (J.bk.updL J.m).updL hu1, J.h, by omega, J.z, J.ne, J.fj, J.fm, J.fu, J.ft, J.fp⟩
    rw [drop_snoc hsm]
    exact paired_snoc (Paired.mapP J.up fun _ _ z => tk z) (tk ht)
  generalize upd (upd H ml (.lst (ms'.map V.ref))) ul (.lst (us.map V.ref ++ [.ref t])) = H2 at *
  refine ⟨_, rfl, j, jx, _, rfl, J2.o, jf_no _ _ _ _ (by decide +kernel), F, j, al, room, B, st, m, rfl, ⟨jx, ml, ul, b, dx, td, pd, f1, f2, ms', us ++ [t], es, J2⟩, fun e' p H3 he' s3 bn => ?_⟩
  have J3 := J2.same s3
  refine ⟨_, rfl, j, CJ, jx, _, rfl, J3.o, TJ.cl, TJ.nB, (by show 4 < 1000; decide), ?_⟩
  obtain ⟨dx5, td5, pd5, f15, f25, B5, n5, n6, n7⟩ := bn
  refine q m rfl _ (same_off (sF2.trans s3) J.fj) ⟨jx, ml, ul, p, dx5, td5, pd5, f15, f25, ms', us ++ [t], e', ⟨by rw [upd_same]; rfl, by rw [upd_ne nmj]; exact J3.m, J3.mp.upd J3.o (fun _ z => nomatch z), by rw [upd_ne nuj]; exact J3.u, J3.up.upd J3.o (fun _ z => nomatch z), B5.updI J3.o rfl, J.h, J2.n, J.z, J.ne, J.fj, J.fm, J.fu, sF2.free n6, sF2.free n7⟩, he'⟩
theorem ok_jredo {f CJ C CP : Addr} {fd : FuncData} (F : Fun K "redo" "Journal.redo" sJRedo f fd) (tl : mg "len" = none) (TJ : JrT K mg CJ) (cst : CalX P w K mg base "stepped" 10 ["book", "step"] (spStepped c C CP)) : FnOk P w K mg base CX0 11 f fd ["self"] (spJRedo CJ C CP) := by
  refine F.ok scJRedo (fun vs H Q E h => ?_) (fun cdv A outer sh H vs Q E hr h => ?_)
  · obtain ⟨F, j, al, room, B, st, n, rfl, _⟩ := h
    rfl
  obtain ⟨F, j, al, room, B, st, n, rfl, ⟨jx, ml, ul, b, dx, td, pd, f1, f2, ms, us, es, J, hes⟩, sF, q0, q⟩ := h
  refine ⟨_, (pss_cons (ps_if (pt_cmpR op_eq (pB1 call_len_seq tl (pe_fld (pv 0) rfl)) pe_int (nomark _))
      (pss_one (ps_ret pe_bl))
      pss_nil)
    (pss_cons (ps_set (i := 1) scJRedo.nd rfl (Or.inl rfl) (pe_bm0 PySem.F.plainAttrs_list PySem.F.slot_list_pop PySem.F.type_list_pop mt_pop (pe_fld (pv 0) rfl)))
    (C8.pss_cut (ps_fld (pv 0) (pcallX (E := EN) cst hr passN (pa_cons (pe_fld (pv 0) rfl) (pa_cons (pv 1) pa_nil))) rfl)
    (pss_cons (ps_expr (pe_bm PySem.F.plainAttrs_list PySem.F.slot_list_append PySem.F.type_list_append mt_append (pe_fld (pv 0) rfl) (pa_cons (pv 1) pa_nil)))
    (pss_one (ps_ret pe_bl)))))), ?_⟩
  have hlu := J.lenU
  have hz := J.z
  have hnl := J.n
  refine ⟨_, rfl, j, CJ, jx, _, _, rfl, J.o, TJ.cl, TJ.nU, jf_undone _ _ _ _, ul, _, rfl, .inl (SqL.of J.u), rfl, _, rfl, ?_⟩
  rw [List.length_map, hlu]
  refine ite2 (fun h1 => q0 (by have := int0 h1; omega)) (fun h1 => ?_)
  have hn : n < st.length := by have := int0n h1; omega
  have q := q hn
  have hsm := List.getElem?_eq_getElem hn
  generalize st[n] = s at hsm
  obtain ⟨e1, e2, g1, g2, g3⟩ := J.h.go n s hsm
  rw [hes] at g1
  cases g1
  have hup := J.up
  rw [drop_snoc hsm] at hup
  obtain ⟨us', t, rfl, hup', ht⟩ := paired_unsnoc hup
  have hul := J.u
  rw [List.map_append] at hul
  replace hul : H ul = some (.lst (us'.map V.ref ++ [.ref t])) := hul
  have nmj : ml ≠ j := ne_of J.m J.o (fun z => nomatch z)
  have nuj : ul ≠ j := ne_of J.u J.o (fun z => nomatch z)
  refine ⟨_, rfl, j, CJ, jx, _, _, rfl, J.o, TJ.cl, TJ.nU, jf_undone _ _ _ _, .inl ⟨rfl, _, SqL.of J.u⟩, ul, _, _, rfl, rfl, hul, snoc_get _ _, ?_⟩
  rw [List.dropLast_concat]
  have sF1 : Same F (upd H ul (.lst (us'.map V.ref))) := same_off sF J.fu
  have hj1 : upd H ul (.lst (us'.map V.ref)) j = some (.ins CJ jx (jf (.ref b) (.ref ml) (.ref ul) (.str (S al)))) := by rw [upd_ne (Ne.symm nuj)]; exact J.o
  have hm1 : upd H ul (.lst (us'.map V.ref)) ml = some (.lst (ms.map V.ref)) := by rw [upd_ne J.ne]; exact J.m
  have hu1 : upd H ul (.lst (us'.map V.ref)) ul = some (.lst (us'.map V.ref)) := upd_same
  have hmp1 : Stps (upd H ul (.lst (us'.map V.ref))) ms (st.take n) := J.mp.upd J.u (fun _ z => nomatch z)
  have hup1 : Stps (upd H ul (.lst (us'.map V.ref))) us' (st.drop (n + 1)).reverse := Stps.upd hup' J.u (fun _ z => nomatch z)
  have ht1 : upd H ul (.lst (us'.map V.ref)) t = some (.tup s.row) := by rw [upd_ne (ne_of ht J.u (fun z => nomatch z))]; exact ht
  have B1 := J.bk.updL (o := .lst (us'.map V.ref)) J.u
  generalize upd H ul (.lst (us'.map V.ref)) = H1 at *
  refine ⟨fun σ' H' => ∃ (b' dx' td' pd' f1' f2' : Addr), σ' = [some (.ref j), some (.ref t)] ∧ Same F H' ∧ H' j = some (.ins CJ jx (jf (.ref b') (.ref ml) (.ref ul) (.str (S al)))) ∧ H' ml = some (.lst (ms.map V.ref)) ∧ Stps H' ms (st.take n) ∧ H' ul = some (.lst (us'.map V.ref)) ∧ Stps H' us' (st.drop (n + 1)).reverse ∧ H' t = some (.tup s.row) ∧
      BookAt H' b' dx' td' pd' f1' f2' C CP al room e2 ∧ F td' = none ∧ F pd' = none, ?_, ?_⟩
  · refine ⟨_, rfl, j, CJ, jx, _, _, rfl, hj1, TJ.cl, TJ.nB, jf_latest _ _ _ _, _, rfl, b, dx, td, pd, f1, f2, t, al, room, es, s, rfl, B1, (J.h.ok hes).u, ht1, step_fit (J.h.ok hes) g3, fun fl hf => ?_, fun es' he => ⟨fun H2 k2 B2 => ?_, fun p' H2 s2 bn => ?_⟩⟩
    · rw [g3] at hf
      cases hf
    · rw [g3] at he
      cases he
      obtain ⟨kps, q1, q2⟩ := B1.q
      have kk : ∀ {x : Addr} {o : HO}, H1 x = some o → (∀ xs, o ≠ .dK xs) → H2 x = some o := fun {x o} e n => k2 _ _ (ne_of e B1.t (fun z => n _ z)) (ne_of e q1 (fun z => n _ z)) e
      have hj2 := kk hj1 (fun _ z => nomatch z)
      refine ⟨_, rfl, j, CJ, jx, _, rfl, hj2, TJ.cl, TJ.nB, (by show 4 < 1000; decide), ?_⟩
      refine ⟨b, dx, td, pd, f1, f2, rfl, same_off (k2.frame sF1 J.ft J.fp) J.fj, by rw [upd_same]; rfl, ?_, ?_, ?_, ?_, ?_, B2.updI hj2 rfl, J.ft, J.fp⟩
      · rw [upd_ne nmj]; exact kk hm1 (fun _ z => nomatch z)
      · exact Stps.upd (Paired.mapP hmp1 fun _ _ z => kk z (fun _ z => nomatch z)) hj2 (fun _ z => nomatch z)
      · rw [upd_ne nuj]; exact kk hu1 (fun _ z => nomatch z)
      · exact Stps.upd (Paired.mapP hup1 fun _ _ z => kk z (fun _ z => nomatch z)) hj2 (fun _ z => nomatch z)
      · rw [upd_ne (ne_of (kk ht1 (fun _ z => nomatch z)) hj2 (fun z => nomatch z))]; exact kk ht1 (fun _ z => nomatch z)
    · rw [g3] at he
      cases he
      obtain ⟨dx5, td5, pd5, f15, f25, B5, n5, n6, n7⟩ := bn
      have hj2 := s2 _ _ hj1
      refine ⟨_, rfl, j, CJ, jx, _, rfl, hj2, TJ.cl, TJ.nB, (by show 4 < 1000; decide), ?_⟩
      refine ⟨p', dx5, td5, pd5, f15, f25, rfl, same_off (sF1.trans s2) J.fj, by rw [upd_same]; rfl, ?_, (hmp1.same s2).upd hj2 (fun _ z => nomatch z), ?_, (hup1.same s2).upd hj2 (fun _ z => nomatch z), ?_, B5.updI hj2 rfl, sF1.free n6, sF1.free n7⟩
      · rw [upd_ne nmj]; exact s2 _ _ hm1
      · rw [upd_ne nuj]; exact s2 _ _ hu1
      · rw [upd_ne (ne_of (s2 _ _ ht1) hj2 (fun z => nomatch z))]; exact s2 _ _ ht1
  rintro σ' H2 ⟨b', dx', td', pd', f1', f2', rfl, sF2, hj2, hm2, hms2, hu2, hus2, ht2, B2, ftd, fpd⟩
  have ml_len : ms.length = n := J.len
  refine ⟨_, rfl, j, CJ, jx, _, _, rfl, hj2, TJ.cl, TJ.nM, jf_made _ _ _ _, .inl ⟨rfl, _, SqL.of hm2⟩, _, rfl, ml, _, _, rfl, rfl, hm2, small_lt (by rw [List.length_map]; omega), ?_⟩
  refine q _ (same_off sF2 J.fm) ⟨jx, ml, ul, b', dx', td', pd', f1', f2', ms ++ [t], us', e2, ⟨by rw [upd_ne (Ne.symm nmj)]; exact hj2, by rw [upd_same, List.map_append]; rfl, ?_, by rw [upd_ne (Ne.symm J.ne)]; exact hu2, hus2.upd hm2 (fun _ z => nomatch z), B2.updL hm2, J.h, hn, J.z, J.ne, J.fj, J.fm, J.fu, ftd, fpd⟩, g2⟩
  rw [take_snoc hsm]
  exact paired_snoc (hms2.upd hm2 (fun _ z => nomatch z)) (by rw [upd_ne (ne_of ht2 hm2 (fun z => nomatch z))]; exact ht2)
end
end W8

set_option Elab.async false
set_option linter.all false
set_option maxRecDepth 100000
set_option maxHeartbeats 4000000
/-! enumerate(tuple) -/
namespace PySem
section
open PySem.Spec
set_option maxHeartbeats 1000000 in
theorem meets_enumerate_newT (l : Addr) (items : Array Value) (n : Nat) (dct : Option Addr) (sl : Array (Option Value)) :
    Meets (Builtin.«enumerate.__new__» ⟨[.type "enumerate", .ref l], []⟩) (fun _ R s =>
      s.heap.get? l = some ⟨.type "tuple", dct, .seq items n, sl⟩ ∧
      R (.ok (.ret (.ref (s.heap.push { cls := .type "tuple_iterator", data := .fields #[.ref l, .int 0 0] }).objs.size)))
        { s with heap := (s.heap.push { cls := .type "tuple_iterator", data := .fields #[.ref l, .int 0 0] }).push { cls := .type "enumerate", data := .fields #[.none, .bool false, .ref s.heap.objs.size, rawInt 0, .none, .none] } }) :=
  .of_wp fun prog w A R s ⟨hl, h⟩ => by
    have hL : s.heap.IsTuple l items := ⟨_, hl, rfl, _, rfl⟩
    obtain ⟨hp, g, d, tk, os⟩ := s
    have hsub := sub_enumerate
    wp_walk
    refine wpAny_stack_any fun st => wpAny_pure ?_
    split
    · rename_i c _ _ _ _ _
      cases (c == Value.type "enumerate")
      · wp_walk using wpAny_loadPart' hl, wpAny_pyIter_tuple hL
        exact ⟨_, rfl, h⟩
      · wp_walk using wpAny_loadPart' hl, wpAny_pyIter_tuple hL
        exact ⟨_, rfl, h⟩
    · wp_walk using wpAny_loadPart' hl, wpAny_pyIter_tuple hL
      exact ⟨_, rfl, h⟩
variable {prog : Program} {w : World} {A : Around} {E : Value → Shared → Prop} {s : Shared}
theorem call_enumerate_tuple {l : Addr} {items : Array Value} {Q : Value → Shared → Prop} (hL : s.heap.IsTuple l items)
    (h : ∀ h', IsEnum h' (s.heap.objs.size + 1) s.heap.objs.size 0 .none → h'.IsTupleIter s.heap.objs.size l 0 → h'.objs.size = s.heap.objs.size + 2 →
      (∀ b o, s.heap.get? b = some o → h'.get? b = some o) → Q (.ref (s.heap.objs.size + 1)) { s with heap := h' }) :
    wpAny (model prog w) A (call (.type "enumerate") [.ref l]) Q E s := by
  obtain ⟨⟨c, dct, dt, sl⟩, hl, hc, n, hd⟩ := hL
  replace hc : c = .type "tuple" := hc
  replace hd : dt = .seq items n := hd
  subst hc hd
  refine callType_new F.called_enumerate (by decide) (F.typeCall_enumerate_1 _) (F.newCall_enumerate_1 _) (fun obj => F.args_object_init_2 obj _) F.entry_enumerate_new
    (meets_enumerate_newT l items n dct sl) ⟨hl, ?_⟩
  have hz : (s.heap.push { cls := .type "tuple_iterator", data := .fields #[.ref l, .int 0 0] }).objs.size = s.heap.objs.size + 1 := Heap.size_push ..
  show _ ∧ _
  rw [hz]
  have he : IsEnum ((s.heap.push { cls := .type "tuple_iterator", data := .fields #[.ref l, .int 0 0] }).push
      { cls := .type "enumerate", data := .fields #[.none, .bool false, .ref s.heap.objs.size, rawInt 0, .none, .none] }) (s.heap.objs.size + 1) s.heap.objs.size 0 .none := by
    have := Heap.get?_push_size (s.heap.push { cls := .type "tuple_iterator", data := .fields #[.ref l, .int 0 0] })
      (o := { cls := .type "enumerate", data := .fields #[.none, .bool false, .ref s.heap.objs.size, rawInt 0, .none, .none] }) rfl
    rw [hz] at this; exact this
  refine ⟨⟨_, he, rfl⟩, h _ he ⟨_, Heap.get?_push_of_some _ (Heap.get?_push_size _ rfl), rfl, rfl⟩ (by rw [Heap.size_push, hz]) fun b o x => Heap.get?_push_of_some _ (Heap.get?_push_of_some _ x)⟩
end
end PySem
namespace L2
open PySem PySem.Spec PyProof.Rows
def Itet (K : PySem.W.Frag) (a : Addr) : It :=
  ⟨fun i H => ∃ (xs : List V) (x : V), SqT K H a xs ∧ xs[i]? = some x, fun i H v H' => ∃ T x, v = .ref T ∧ H T = none ∧ H' = upd H T (.tup [.int (i : Nat), x]) ∧ ∀ xs, SqT K H a xs → xs[i]? = some x, fun i H => ∃ xs : List V, SqT K H a xs ∧ xs.length ≤ i⟩
theorem turn_enumT {P : Program} {w : World} {K : PySem.W.Frag} {elts : List Expr} {kk : Nat} {tpos : Pos} (a e it : Addr) :
    Turn P w K (.Tuple elts kk tpos) (Itet K a) [e, it] e (fun i h => (∃ old, IsEnum h e it ((i : Nat) : Int) old) ∧ h.IsTupleIter it a i ∧ e ≠ it ∧ a ≠ it ∧ a ≠ e) where
  mem := by simp
  obj := fun i h st b hb => by
    obtain ⟨⟨old, he⟩, ⟨o, ho, hc, hd⟩, _⟩ := st
    have e' : b = e ∨ b = it := by simpa using hb
    rcases e' with z | z
    · rw [z]; exact ⟨_, he, fun v q => nomatch q⟩
    · rw [z]; exact ⟨o, ho, fun v q => by rw [hd] at q; cases q⟩
  keep := fun i h h' st k => let ⟨⟨old, he⟩, hi, hne⟩ := st; ⟨⟨old, k e (by simp) _ he⟩, hi.at fun o q => k it (by simp) o q, hne⟩
  item := by
    intro X hP hw hK hc i pins s σ H E I hf st hg
    subst hP hw hK
    obtain ⟨⟨old, he⟩, hit, hne, hai, hae⟩ := st
    obtain ⟨xs, x, hq, hx⟩ := hg
    obtain ⟨its, rv, p, hz⟩ := I.tuple hq
    obtain ⟨u, hu, ru⟩ := rv.get hx
    have hel : e < s.heap.objs.size := Heap.lt_size he
    have hil : it < s.heap.objs.size := by obtain ⟨_, q, _⟩ := hit; exact Heap.lt_size q
    have hh : X.A.in1.in1.handled = none := by have q := I.ok.hd hc; simpa using q
    have hI : s.heap.IsTuple a its.toArray := p
    have D : Draws X.prog X.w X.A.in1 it [it, a] its.toArray.size (fun i v => its.toArray[i]? = some v) (fun i h => h.IsTupleIter it a i ∧ h.IsTuple a its.toArray) := Draws.tuple (by simpa using hh) it a hai its.toArray
    have hi2 : i < its.toArray.size := by
      have := (List.getElem?_eq_some_iff.mp hu).1
      simpa using this
    refine wpAny_pyNext_enum_itemD D he ⟨hit, hI⟩ hi2 hne (by simp only [List.mem_cons, List.not_mem_nil, or_false, not_or]; exact ⟨hne, Ne.symm hae⟩) fun v h' tk hv ho hit' hT hsz hk => ?_
    have ev : v = u := by
      have h1 : its[i]? = some v := by simpa using hv
      rw [hu] at h1
      exact (Option.some.inj h1).symm
    subst ev
    refine ⟨_, rfl, wpAny_letOwnedTupleGo_enum (s := { s with heap := h', toks := tk + 1 }) ho fun h'' he' sb => ?_⟩
    have hT2 := (sb.2 _ (Nat.ne_of_gt hel)).trans hT
    have new : ObjOk X.prog X.w (upd H s.heap.objs.size (.tup [.int (i : Nat), x])) h'' s.heap.objs.size (.tup [.int (i : Nat), x]) :=
      ⟨by show 2 ≤ sizeLine; decide, [.int i tk, v], .cons ⟨_, rfl⟩ (.cons ru .nil), ⟨_, hT2, rfl, _, rfl⟩⟩
    have I1 : Inv X pins σ (upd H s.heap.objs.size (.tup [.int (i : Nat), x])) { s with heap := h'', toks := tk + 1 } :=
      I.turnedNew (ch := [e, it]) (fun b ob hb q => (sb.2 b (fun z => hb (by simp [z]))).trans (hk b ob (fun z => hb (by simp [z])) (fun z => hb (by simp [z])) q)) hf (Nat.le_refl _) new
    refine ⟨.ref s.heap.objs.size, _, I1, rfl, ⟨_, x, rfl, I.hok.fresh (Nat.le_refl _), rfl, fun ys hy => by rw [I.tuple_inj hy hq]; exact hx⟩, ⟨⟨v, ?_⟩, hit'.1.at fun o q => (sb.2 it (Ne.symm hne)).trans q, hne, hai, hae⟩, fun b hb => ?_⟩
    · have e1 : ((i + 1 : Nat) : Int) = (i : Int) + 1 := by omega
      rw [e1]; exact he'
    · have hb' : b < s.heap.objs.size := by
        have e' : b = e ∨ b = it := by simpa using hb
        rcases e' with z | z
        · rw [z]; exact hel
        · rw [z]; exact hil
      rw [upd_ne (Nat.ne_of_lt hb')]
      exact (hf b hb).1
  done := by
    intro X hP hw hK hc i pins s σ H E I hf st hg
    subst hP hw hK
    obtain ⟨⟨old, he⟩, hit, hne, hai, hae⟩ := st
    obtain ⟨xs, hq, hx⟩ := hg
    obtain ⟨its, rv, p, hz⟩ := I.tuple hq
    have hh : X.A.in1.in1.handled = none := by have q := I.ok.hd hc; simpa using q
    have hI : s.heap.IsTuple a its.toArray := p
    obtain ⟨f0, f1, f2, f3, f4, f5⟩ := hf it (by simp)
    have hl := rv.length
    have D : Draws X.prog X.w X.A.in1 it [it, a] 0 (fun _ _ => True) (fun _ h => h.IsTupleIter it a i ∧ h.IsTuple a its.toArray) :=
      ⟨fun _ _ st => let ⟨o, ho, _⟩ := st.1; ⟨o, ho⟩, fun _ _ _ st hk => ⟨st.1.at fun o e => hk it (by simp) o e, st.2.at fun o e => hk a (by simp) o e⟩, fun _ _ _ _ h => absurd h (Nat.not_lt_zero _),
        fun s Q E st hE => wpAny_nextOf_tuple_end (by simpa using hh) st.1 st.2 (by simp; omega) hE⟩
    exact wpAny_pyNext_enum_endD D he ⟨hit, hI⟩ fun h' eb => ⟨rfl, I.turned (t' := s.toks) (fun b o hb q => eb b o hb q) f0 f1 f3 f4 f5⟩
  self := fun A i s Q E st h => let ⟨⟨_, he⟩, _⟩ := st; wpAny_pyIter_enum he h
def iEnumT (K : PySem.W.Frag) (ta : TA) : TI := fun σ H R => ta σ H fun vs H1 => ∃ a xs, vs = [.ref a] ∧ SqT K H1 a xs ∧ R (Itet K a) H1
theorem pi_enumT {X : Cx} {e : Expr} {ta : TA} {p pos tpos : Pos} {elts : List Expr} {kk : Nat} (hg : Gl X "enumerate") (hm : X.mg "enumerate" = none) (ha : PA X [e] ta) (hs : starEach [e] X.env = [(false, eval e X.env)] := by rfl) :
    PI X (.Tuple elts kk tpos) (.Call (.Name "enumerate" p) [e] [] pos) (iEnumT X.K ta) := by
  refine ⟨fun pins s σ H R I h => ?_⟩
  refine Call_ (ld_blt I hg hm boot_enumerate (PyProof.Rows.callWith_type1 (thn (ha.run pos pins s σ H _ I h) fun us s1 ⟨vs, H1, I1, r1, q1⟩ => ?_) hs rfl))
  obtain ⟨a, xs, ex, hq, q⟩ := q1
  subst ex
  cases r1 with
  | cons r rr =>
    cases rr
    cases r
    obtain ⟨its, rv, p', hz⟩ := I1.tuple hq
    have hI : s1.heap.IsTuple a its.toArray := p'
    have hal : a < s1.heap.objs.size := by obtain ⟨_, q, _⟩ := hI; exact Heap.lt_size q
    refine call_enumerate_tuple hI fun h' he hit hsz hk => wpAny_pyIter_enum he ?_
    have I2 : Inv X pins σ H1 { s1 with heap := h' } := I1.kept (t' := s1.toks) hk
    refine ⟨s1.heap.objs.size + 1, [s1.heap.objs.size + 1, s1.heap.objs.size], _, _, H1, rfl, I2, turn_enumT a (s1.heap.objs.size + 1) s1.heap.objs.size, ⟨⟨.none, he⟩, hit, Nat.succ_ne_self _, Nat.ne_of_lt hal, Nat.ne_of_lt (Nat.lt_succ_of_lt hal)⟩, fun b hb => ?_, q⟩
    have e' : b = s1.heap.objs.size + 1 ∨ b = s1.heap.objs.size := by simpa using hb
    have hle : s1.heap.objs.size ≤ b := by
      rcases e' with z | z
      · rw [z]; exact Nat.le_add_right _ _
      · rw [z]; exact Nat.le_refl _
    exact I1.fpOk hle (I1.hok.fresh hle)
theorem walk_enumT {K : PySem.W.Frag} {a : Addr} {xs : List V} : Walk (Itet K a) xs.length (fun H => SqT K H a xs) (YPair (fun i => some (.int (i : Nat))) (fun i => xs[i]?)) :=
  ⟨fun i H hi q => ⟨xs, xs[i], q, by simp [hi]⟩, fun H q => ⟨xs, q, Nat.le_refl _⟩, fun i H x H' _ q ⟨T, y, e1, e2, e3, e4⟩ => ⟨T, _, y, e1, e2, e3, rfl, e4 xs q⟩⟩
end L2

set_option Elab.async false
set_option linter.all false
set_option maxRecDepth 100000
set_option maxHeartbeats 4000000
/-! o[i] by an own __getitem__ -/
namespace L2
open PySem PySem.Spec PyProof.Rows
section
variable {X : Cx} {CX : CXT} {k : Nat} {C f : Addr} {fd : FuncData} {ps : List Str} {sp : Sp} {E : XK} {a b : Expr} {ta tb : TE} {pos : Pos}
/-- what is asked of the index -/
def OwnIx (b : Expr) : Prop := ∀ o i, subscripted b true o i = runValue (.builtin "lifetime.subscript" ⟨[o, i], []⟩)
theorem pe_ixO (F : FnOk X.prog X.w X.K X.mg X.base CX k f fd ps sp) (hm : Meth X.K C "__getitem__" f) (hfi : PySem.W.fnIn X.K f = true) (hb : Binds X.K fd ps []) (hx : Passes CX X E) (hr : Room (k + 1) X.A) (ha : PE X a ta) (hbb : PE X b tb) (hs : OwnIx b := by exact fun _ _ => rfl) :
    PE X (.Subscript a b pos) (tOp (rIxO C sp E) ta tb) := by
  refine ⟨fun pins s σ H Q I h => ?_⟩
  refine Subscript_ (binT ha hbb I h fun v u s2 x y H2 I2 rx ry q => ?_)
  obtain ⟨o, dx, fs, rfl, ho, hsp⟩ := q
  cases rx
  obtain ⟨mA, J, _⟩ := ins_get I2.hok ho
  obtain ⟨od, J, _⟩ := J.look
  obtain ⟨m, hF⟩ := I2.fr
  refine PySem.W.sub_K hF I2.ok.mod.kin J hm.at_ hfi hm.fn ?_ (hs _ _)
  have e0 : Env0 X.prog X.w X.K X.mg X.base X.A.in1 X.stack s2 H2 := by
    have e := I2.env0
    exact ⟨e.frames, e.mod, e.bs, e.bsz, e.funs, e.frf, e.hok, e.bare⟩
  have hl := F.len _ _ _ _ hsp
  have r2 : Vals [V.ref o, y] [Value.ref o, u] := .cons rfl (.cons ry .nil)
  refine wpAny_call (codeAny_mono (F.run X.A.in1 X.stack s2 H2 ⟨[.ref o, u], []⟩ [.ref o, u] [.ref o, y] _ E hr.in1 e0 (by
    have := hb s2 [.ref o, u] I2.kIn (by simpa using hl)
    simpa using this) r2 hsp) fun r s' hq => ?_)
  cases r with
  | error e => exact hx pins σ H2 s2 e s' I2 hq
  | ok fl =>
    cases fl with
    | ret w =>
      obtain ⟨z, H', I', rz, q⟩ := I2.after hq
      exact ⟨z, H', I', rz, q⟩
    | next => exact False.elim hq
    | brk => exact False.elim hq
    | cont => exact False.elim hq
end
end L2

set_option Elab.async false
set_option linter.all false
set_option maxRecDepth 100000
set_option maxHeartbeats 4000000
namespace W8
open PySem PySem.Spec PyProof.Rows L2 L2E
def spPInitT (C : Addr) : Sp := fun vs H Q _ => ∃ (p dx rl : Addr) (al : List Nat) (rows : List Row), vs = [.ref p, .str (S al), .ref rl] ∧ H p = some (.ins C dx []) ∧ AlphOk al ∧ (∃ ts : List Addr, H rl = some (.tup (ts.map V.ref)) ∧ Paired (fun (t : Addr) (row : Row) => H t = some (.tup row)) ts rows) ∧ rows ≠ [] ∧ rows.length ≤ 16000 ∧ (∀ i r, rows[i]? = some r → RowOk al i r) ∧
  ∀ H', But p H H' → PatAt H' p C al rows → Q .non H'
theorem readL_inv {al : List Nat} (h3 : al.length ≤ 3) : ∀ {xs : List Nat} {i : Nat} {s t : RS}, RS.Good al s → RS.Ok s (11 * i) → RS.readL al xs i s = some (.inr t) → RS.Good al t ∧ RS.Ok t (11 * (i + xs.length))
  | [], i, s, t, g, o, e => by
    unfold RS.readL at e
    cases e
    exact ⟨g, o⟩
  | c :: cs, i, s, t, g, o, e => by
    unfold RS.readL at e
    split at e
    · cases e
    · cases e
    · rename_i u hu
      have := readL_inv h3 (RS.good_take g h3 hu) ((RS.take_ok o hu).le (by omega)) e
      rw [List.length_cons, show i + (cs.length + 1) = i + 1 + cs.length by omega]
      exact this
theorem readP_good {al tx : List Nat} {rows : List Row} (hA : AlphOk al) (h : readP al tx = some (.rows rows)) : rows ≠ [] ∧ rows.length ≤ 16000 ∧ ∀ i r, rows[i]? = some r → RowOk al i r := by
  have h3 := hA.n3
  have h200 := readP_len h
  unfold readP at h
  rw [if_neg (by omega)] at h
  split at h
  · cases h
  · cases h
  · rename_i s hs
    obtain ⟨g, o⟩ := readL_inv h3 RS.good_init ⟨Nat.le_refl _, Nat.le_refl _⟩ hs
    split at h
    · cases h
    · rename_i hr
      split at h
      · cases h
      · rename_i u hd
        split at h
        · cases h
          have g3 := RS.good_down g hd
          have o3 := (RS.down_ok o hd).b
          refine ⟨g3.rdy ?_, by omega, g3.rows⟩
          rw [down_ready hd]
          cases hh : s.ready with
          | false => exact absurd hh hr
          | true => rfl
        · cases h
section
variable {P : Program} {w : World} {K : PySem.W.Frag} {mg : Str → Option Value} {base : Heap}
theorem ok_pinitT {f C D : Addr} {fd : FuncData} (F : Fun K "__init__" "Pattern.__init__" sPInit f fd) (T : PtT K w mg C D) (ccheck_letters : Cal P w K mg base "check_letters" 1 ["letters"] spCheckL) (cfits : Cal P w K mg base "fits" 1 ["row", "at", "letters"] spFits) : FnOk P w K mg base CX0 2 f fd ["self", "letters", "rows"] (spPInitT C) := by
  refine F.ok scPInit (fun vs H Q E h => ?_) (fun cdv A outer s H vs Q E hr h => ?_)
  · obtain ⟨p, dx, rl, al, rows, rfl, _⟩ := h
    rfl
  obtain ⟨p, dx, rl, al, rows, rfl, hp, hA, ⟨ts, h1, h2⟩, hne, hsz, hok, q⟩ := h
  obtain ⟨uM, tM⟩ := T.mr
  have hl : ts.length = rows.length := Paired.length h2
  refine ⟨_, (pss_cons (ps_fld (pv 0) (pcall ccheck_letters hr (pa_cons (pv 1) pa_nil)) rfl)
    (pss_cons (ps_if (pt_cmpR op_gt (pB1 call_len_seq T.S.len (pv 2)) (pe_con (pv 0) rfl) (nomark _))
      (pss_one ps_never)
      pss_nil)
    (pss_cons (ps_if (pt_cmpR op_eq (pB1 call_len_seq T.S.len (pv 2)) pe_int (nomark _))
      (pss_one ps_never)
      pss_nil)
    (pss_cons (ps_for PassesOwn.never rfl (pi_enumT (by rfl) T.en (pa_cons (pv 2) pa_nil)) (pg_tup (by rfl) (pgs_cons (pg_name (i := 3) scPInit.nd rfl (Or.inl rfl)) (pgs_cons (pg_name (i := 4) scPInit.nd rfl (Or.inl rfl)) pgs_nil)))
      (pss_one (ps_if (pt_not (pt_truth (pcall cfits hr (pa_cons (pv 4) (pa_cons (pv 3) (pa_cons (pv 1) pa_nil)))) (by intro _; rfl)))
        (pss_one ps_never)
        pss_nil)))
    (pss_one (ps_fld (pv 0) (pT1 call_tuple_of T.S.tuple (pe_lc (own := [("row", 4)]) (g := gName 4) (tt := tYes) rfl scPInit.nd (pi_tup (pv 2)) (blkOk_by (own := [("row", 4)]) (N := ["self", "letters", "rows", "at", "row"]) (sc := defScope sPInit) (by decide +kernel)) (fun _ _ _ _ _ => (pg_name (i := 4) scPInit.nd rfl (Or.inl rfl))) (fun _ _ _ _ _ => pts_nil) (fun _ _ _ _ _ => (pT1 (T := "tuple") (r := rTupOf K) cr_tupOf T.S.tuple (pv 4))))) rfl)))))), ?_⟩
  refine ⟨_, rfl, al, rfl, hA, _, rfl, p, C, dx, _, rfl, hp, T.cl, T.nL, (by show 0 < 1000; decide), ?_⟩
  have b0 : But p H (upd H p (.ins C dx (putF "letters" (.str (S al)) []))) := But.upd
  have hp0 : upd H p (.ins C dx (putF "letters" (.str (S al)) [])) p = some (.ins C dx (putF "letters" (.str (S al)) [])) := upd_same
  generalize upd H p (.ins C dx (putF "letters" (.str (S al)) [])) = H0 at *
  have h1 : H0 rl = some (.tup (ts.map V.ref)) := b0 _ _ (ne_of h1 hp (fun z => nomatch z)) h1
  have h2 : Paired (fun (t : Addr) (row : Row) => H0 t = some (.tup row)) ts rows := Paired.mapP h2 fun _ _ z => b0 _ _ (ne_of z hp (fun z => nomatch z)) z
  have hlen : ((ts.map V.ref).length : Int) = (rows.length : Int) := by rw [List.length_map, hl]
  refine ⟨_, rfl, rl, _, rfl, .inr (SqT.of h1), ?_⟩
  rw [hlen]
  refine ⟨_, rfl, p, C, dx, _, _, _, rfl, hp0, T.cl, tM, (by rfl), _, _, rfl, rfl, _, rfl, ?_⟩
  refine ite2 (fun z => ?_) (fun _ => ?_)
  · have := of_decide_eq_true z
    omega
  refine ⟨_, rfl, rl, _, rfl, .inr (SqT.of h1), ?_⟩
  rw [hlen]
  refine ⟨rfl, _, rfl, ?_⟩
  refine ite2 (fun z => ?_) (fun _ => ?_)
  · have e9 : V.int ((rows.length : Nat) : Int) = V.int 0 := of_decide_eq_true z
    have e8 : (rows.length : Int) = 0 := by injection e9
    exact absurd (List.length_eq_zero_iff.mp (by omega)) hne
  refine ⟨_, rfl, rl, _, rfl, SqT.of h1, ?_⟩
  refine L2.for_it (L2.walk_enumT (xs := ts.map V.ref)) (fun i σ H' => ∃ (x y : Option V), σ = [some (.ref p), some (.str (S al)), some (.ref rl), x, y] ∧ Same H0 H') ⟨none, none, rfl, Same.refl H0⟩ (fun _ _ _ _ ⟨_, _, _, s4⟩ => SqT.of (s4 _ _ h1)) ?_ ?_
  · rintro i x σ H1 H2 hi ⟨x1, y1, rfl, s1⟩ ⟨tq, vx, vy, rfl, htq, rfl, ex, ey⟩
    cases ex
    replace ey : (ts.map V.ref)[i]? = some vy := ey
    rw [List.getElem?_map] at ey
    cases htj : ts[i]? with
    | none => rw [htj] at ey; cases ey
    | some tj =>
      rw [htj] at ey
      cases ey
      obtain ⟨row, hrow, hat⟩ := L2.paired_get h2 htj
      have s2 := s1.trans (same_new htq (.tup [.int (i : Int), .ref tj]))
      refine ⟨tq, _, rfl, SqT.of upd_same, rfl, _, _, rfl, _, _, rfl, rfl, ?_⟩
      refine ⟨_, rfl, _, rfl, _, rfl, tj, i, al, row, rfl, s2 _ _ hat, hok i row hrow, hA.n3, fun H3 s3 => ?_⟩
      refine ⟨_, rfl, ?_⟩
      refine ite2 (fun z => (by cases z)) (fun _ => ?_)
      exact ⟨_, _, rfl, s2.trans s3⟩
  rintro σ H1 ⟨x1, y1, rfl, s1⟩
  have h1' := s1 _ _ h1
  have h2' : Paired (fun (t : Addr) (row : Row) => H1 t = some (.tup row)) ts rows := Paired.mapP h2 fun _ _ z => s1 _ _ z
  refine ⟨_, rfl, rl, rfl, ⟨_, SqT.of h1'⟩, fun L hL => ?_⟩
  refine L2.lc_it (L2.walk_tup (xs := ts.map V.ref)) (fun i H' => Same H1 H' ∧ H' L = some (.lst ((ts.take i).map V.ref))) ⟨same_new hL _, upd_same⟩ (fun _ _ _ ⟨s4, _⟩ => SqT.of (s4 _ _ h1')) ?_ ?_
  · rintro i x H2 H3 hi ⟨s2, hL2⟩ ⟨rfl, hx⟩
    rw [List.getElem?_map] at hx
    cases htj : ts[i]? with
    | none => rw [htj] at hx; cases hx
    | some tj =>
      rw [htj] at hx
      cases hx
      obtain ⟨row, hrow, hat⟩ := L2.paired_get h2' htj
      refine ⟨rfl, _, rfl, tj, _, rfl, .inr ⟨SqT.of (s2 _ _ hat), _, hL2, small_lt (by rw [List.length_map, List.length_take]; omega), same_upd s2 hL, ?_⟩⟩
      rw [upd_same, List.take_add_one, htj, List.map_append]
      rfl
  rintro H2 ⟨s2, hL2⟩
  rw [List.length_map, List.take_length] at hL2
  refine ⟨L, _, rfl, .inl ⟨SqL.of hL2, fun rt hrt => ?_⟩⟩
  have s3 := s2.trans (same_new hrt (.tup (ts.map V.ref)))
  have s4 := s1.trans s3
  refine ⟨_, rfl, p, C, dx, _, rfl, s4 _ _ hp0, T.cl, T.nR, (by show 1 < 1000; decide), ?_⟩
  have nrt : rt ≠ p := fun e => by rw [e, s2 _ _ (s1 _ _ hp0)] at hrt; cases hrt
  refine q _ (b0.trans ((But.same0 s4).trans But.upd)) ⟨dx, rt, ts, ?_, ?_, ?_⟩
  · rw [upd_same]
    rfl
  · rw [upd_ne nrt, upd_same]
  · refine Paired.mapP h2 fun t row z => ?_
    rw [upd_ne (ne_of z hp0 (fun z => nomatch z))]
    exact s4 _ _ z
/-- what isinstance asks of an own class -/
structure InsI (K : PySem.W.Frag) (C : Addr) : Prop where
  ha : PySem.W.findIn K (.ref C) "__class__" = some (some (.builtin "object.__class__"))
  hn : PySem.W.specialIn K (.builtin "object.__class__") "__get__" = some (some (.builtin "getset_descriptor.__get__"))
  htk : PySem.W.takesIn K (.builtin "object.__class__") = some true
  hm : PySem.W.mroIn K C (.type "object") = some true
  kt : PySem.W.kitOne K (.ref C) (.ref C) = some true
abbrev sPEq : Stmt := inClass (top 37) 10
theorem scPEq : FnScope ["self", "other"] ["self", "other"] (defScope sPEq) := ⟨rfl, rfl, rfl, by decide +kernel, rfl, by decide +kernel, by decide +kernel⟩
/-- two patterns with the same rows -/
def EqP (CP : Addr) : Addr → Addr → Hp → Prop := fun a b H => ∃ al rows, PatAt H a CP al rows ∧ PatAt H b CP al rows ∧ ∀ i r, rows[i]? = some r → RowOk al i r
theorem row_flat {al : List Nat} {i : Nat} {r : Row} (h : RowOk al i r) : ∀ v ∈ r, flatV v = true ∧ eqV v v = true := by
  have hs : ∀ z : Str, flatV (.str z) = true ∧ eqV (.str z) (.str z) = true := fun z => ⟨rfl, by show (z == z) = true; exact beq_self_eq_true _⟩
  have hi : ∀ n : Nat, flatV (RS.nV n) = true ∧ eqV (RS.nV n) (RS.nV n) = true := fun n => ⟨rfl, by show ((n : Int) == (n : Int)) = true; exact beq_self_eq_true _⟩
  rcases h with ⟨c, _, rfl⟩ | ⟨kd, ps, rfl, _⟩
  · intro v hv
    rcases List.mem_cons.mp hv with rfl | hv
    · exact hs _
    · rw [List.mem_singleton.mp hv]; exact hs _
  · intro v hv
    rcases List.mem_cons.mp hv with rfl | hv
    · exact hs _
    · obtain ⟨n, _, rfl⟩ := List.mem_map.mp hv
      exact hi n
theorem prs_rows {H : Hp} {K : PySem.W.Frag} {al : List Nat} {rows : List Row} {ts us : List Addr} (h1 : Paired (fun (t : Addr) (row : Row) => H t = some (.tup row)) ts rows) (h2 : Paired (fun (t : Addr) (row : Row) => H t = some (.tup row)) us rows) (hr : ∀ i r, rows[i]? = some r → RowOk al i r) :
    L2.Prs (DTup K DFlat) (ts.map V.ref) (us.map V.ref) H := by
  refine ⟨by rw [List.length_map, List.length_map, Paired.length h1, Paired.length h2], fun i x y hx hy => ?_⟩
  rw [List.getElem?_map] at hx hy
  cases ht : ts[i]? with
  | none => rw [ht] at hx; cases hx
  | some t =>
    cases hu : us[i]? with
    | none => rw [hu] at hy; cases hy
    | some u =>
      rw [ht] at hx
      rw [hu] at hy
      cases hx
      cases hy
      obtain ⟨r, e1, a1⟩ := L2.paired_get h1 ht
      obtain ⟨r', e2, a2⟩ := L2.paired_get h2 hu
      rw [e1] at e2
      cases e2
      refine ⟨t, u, r, r, rfl, rfl, SqT.of a1, SqT.of a2, rfl, fun k x y hx hy => ?_⟩
      rw [hx] at hy
      cases hy
      obtain ⟨f1, f2⟩ := row_flat (hr i r e1) x (List.mem_of_getElem? hx)
      exact ⟨f1, f1, f2⟩
theorem ok_peq {f C D : Addr} {fd : FuncData} (F : Fun K "__eq__" "Pattern.__eq__" sPEq f fd) (T : PtT K w mg C D) (I : InsI K C) : FnOk P w K mg base CX0 3 f fd ["self", "other"] (L2.spEq (EqP C)) := by
  refine F.ok scPEq (fun vs H Q E h => ?_) (fun cdv A outer s H vs Q E hr h => ?_)
  · obtain ⟨a, b, rfl, _⟩ := h
    rfl
  obtain ⟨a, b, rfl, ⟨al, rows, ⟨dx, rt, ts, a1, a2, a3⟩, ⟨dy, ru, us, b1, b2, b3⟩, hrow⟩, q⟩ := h
  refine ⟨_, (pss_one (ps_ret (pe_and (pe_callB call_isi (by rfl) T.S.isinstance (by decide +kernel) (pa_cons (pv 1) (pa_cons (pe_glob (v := .ref C) rfl T.mgC rfl) pa_nil))) (pe_and (pe_cmpR op_eq (pe_fld (pv 0) rfl) (pe_fld (pv 1) rfl) (nomark _)) (pe_one (pe_cmpR (op_eqG (rcG_tup (mon_tup mon_flat) (eqG_tup mon_flat eqG_flat)) hr) (pe_fld (pv 0) rfl) (pe_fld (pv 1) rfl) (nomark _))))))), ?_⟩
  refine ⟨_, rfl, _, _, _, _, _, rfl, .own C, .base (.ins b1 T.cl I.ha I.hn I.htk I.hm), I.kt, _, rfl, ?_⟩
  refine ite2 (fun _ => ?_) (fun z => absurd rfl z)
  refine ⟨_, rfl, a, C, dx, _, _, rfl, a1, T.cl, T.nL, ptf_letters _ _, _, rfl, b, C, dy, _, _, rfl, b1, T.cl, T.nL, ptf_letters _ _, rfl, _, rfl, ?_⟩
  refine ite2 (fun _ => ?_) (fun z => absurd (decide_eq_true rfl) z)
  exact ⟨_, rfl, a, C, dx, _, _, rfl, a1, T.cl, T.nR, ptf_rows _ _, _, rfl, b, C, dy, _, _, rfl, b1, T.cl, T.nR, ptf_rows _ _, ⟨rt, ru, _, _, rfl, rfl, SqT.of a2, SqT.of b2, prs_rows a3 b3 hrow⟩, fun H' e => q H' e⟩
abbrev sBGet : Stmt := inClass (top 52) 7
theorem scBGet : FnScope ["self", "name"] ["self", "name"] (defScope sBGet) := ⟨rfl, rfl, rfl, by decide +kernel, rfl, by decide +kernel, by decide +kernel⟩
def spBGet (C CP : Addr) : Sp := fun vs H Q _ => ∃ (p dx td pd f1 f2 : Addr) (al : List Nat) (room : Nat) (es : List Ent) (nm tx : List Nat), vs = [.ref p, .str (S nm)] ∧ BookAt H p dx td pd f1 f2 C CP al room es ∧ toldE es nm = some tx ∧
  ∀ q rows H', readP al tx = some (.rows rows) → Same H H' → PatAt H' q CP al rows → Q (.ref q) H'
theorem val_pat {H : Hp} {CP : Addr} {al : List Nat} {n t : List Nat} : ∀ {kvs : List (Key × V)} {es : List Ent}, Paired (PatE H CP al) kvs es → toldE es n = some t → ∃ p rows, valV kvs (kN n) = some (.ref p) ∧ readP al t = some (.rows rows) ∧ PatAt H p CP al rows := by
  intro kvs es h
  induction h with
  | nil => intro z; cases z
  | cons a b ih =>
    rename_i kv e kvs es
    intro z
    obtain ⟨h1, p, rows, h2, h3, h4⟩ := a
    rw [told_cons] at z
    have hv : valV (kv :: kvs) (kN n) = if e.1 = n then some kv.2 else valV kvs (kN n) := by
      unfold valV
      rw [List.find?_cons]
      have : decide (kv.1 = kN n) = decide (e.1 = n) := by rw [h1, dec_kN]
      rw [this]
      by_cases hn : e.1 = n
      · rw [decide_eq_true hn, if_pos hn]; rfl
      · rw [decide_eq_false hn, if_neg hn]
    rw [hv]
    by_cases hn : e.1 = n
    · rw [if_pos hn] at z ⊢
      cases z
      exact ⟨p, rows, by rw [h2], h3, h4⟩
    · rw [if_neg hn] at z ⊢
      exact ih z
theorem ok_bget {f C CP D : Addr} {fd : FuncData} (F : Fun K "__getitem__" "Book.__getitem__" sBGet f fd) (T : BkT K mg C) (TP : PtT K w mg CP D) (mp : MkCal P w K mg base CP 2 ["self", "letters", "rows"] (spPInitT CP)) : FnOk P w K mg base CX0 4 f fd ["self", "name"] (spBGet C CP) := by
  refine F.ok scBGet (fun vs H Q E h => ?_) (fun cdv A outer s H vs Q E hr h => ?_)
  · obtain ⟨p, dx, td, pd, f1, f2, al, room, es, nm, tx, rfl, _⟩ := h
    rfl
  obtain ⟨p, dx, td, pd, f1, f2, al, room, es, nm, tx, rfl, B, ht, q⟩ := h
  obtain ⟨f2', fd2, F2, M2, b2⟩ := mp.ex
  have hu := Nat.lt_of_le_of_lt (Nat.add_le_add_left (show 1 ≤ 64 by decide) _) hr.units
  refine ⟨_, (pss_cons (ps_if (pt_cmp (pc_dnotin hu (pv 1) (pe_fld (pv 0) rfl)))
      (pss_one ps_never)
      pss_nil)
    (pss_one (ps_ret (pe_make M2 F2 hr (by rfl) TP.mgC b2 .nil pass0 (pa_cons (pe_fld (pv 0) rfl) (pa_cons (pe_fld (pe_dget hu (pe_fld (pv 0) rfl) (pv 1) (fun _ _ => rfl)) rfl) pa_nil)))))), ?_⟩
  obtain ⟨kps, hk, hk2⟩ := B.q
  obtain ⟨pp, rows, hv, hrd, dx2, rt, ts, a1, a2, a3⟩ := val_pat hk2 ht
  have hget : DGet H pd (.str (S nm)) (some (.ref pp)) := .inl ⟨kps, kN nm, .inl hk, rfl, hv.symm⟩
  obtain ⟨g1, g2, g3⟩ := readP_good B.A hrd
  refine ⟨_, rfl, _, rfl, p, C, dx, _, _, rfl, B.o, T.cl, T.nP, bk_patterns _ _ _ _ _ _, pd, _, rfl, hget, _, rfl, ?_⟩
  refine ite2 (fun z => (by cases z)) (fun _ => ?_)
  refine ⟨_, rfl, p, C, dx, _, _, rfl, B.o, T.cl, T.nL, bk_letters _ _ _ _ _ _, _, rfl, p, C, dx, _, _, rfl, B.o, T.cl, T.nP, bk_patterns _ _ _ _ _ _, _, rfl, pd, _, rfl, hget, pp, CP, dx2, _, _, rfl, a1, TP.cl, TP.nR, ptf_rows _ _, fun x dx3 hx hdx hne => ?_⟩
  have sb : Same H (upd (upd H dx3 (.own x)) x (.ins CP dx3 [])) := (same_new hdx (.own x)).trans (same_new (by rw [upd_ne (Ne.symm hne)]; exact hx) _)
  refine ⟨x, dx3, rt, al, rows, rfl, upd_same, B.A, ⟨ts, sb _ _ a2, Paired.mapP a3 fun _ _ z => sb _ _ z⟩, g1, g2, g3, fun H5 bt5 P5 => ⟨rfl, ?_⟩⟩
  exact q x rows H5 hrd (fun b o e => bt5 b o (fun z => by rw [z, hx] at e; cases e) (sb b o e)) P5
end
end W8

set_option Elab.async false
set_option linter.all false
set_option maxRecDepth 100000
set_option maxHeartbeats 4000000
namespace W8
open PySem PySem.Spec PyProof.Rows L2 L2E
/-! ### the texts are read -/
section
variable {al : List Nat} {s t : RS} {c : Nat}
theorem readL_cons {cs : List Nat} {i : Nat} (h : RS.take al s c = some (some t)) : RS.readL al (c :: cs) i s = RS.readL al cs (i + 1) t := by
  rw [RS.readL, h]
theorem readL_bad {cs : List Nat} {i : Nat} (h : RS.take al s c = some none) : RS.readL al (c :: cs) i s = some (.inl i) := by
  rw [RS.readL, h]
theorem readL_end {i : Nat} : RS.readL al [] i s = some (.inr s) := by
  rw [RS.readL]
open RS in
theorem take_l1 (hc : c ∈ al) (lo : 97 ≤ c ∧ c ≤ 122) (hr : s.ready = false) : take al s c = some (some ((s.put [.str "letter", .str (S [c])]).setB true)) := by
  unfold take
  rw [if_pos (.inl hc)]
  unfold begin1
  rw [if_neg (by rw [hr]; exact Bool.false_ne_true)]
  unfold begin2
  rw [if_neg (by omega), if_neg (by omega), if_neg (by omega), if_neg (by omega)]
  rfl
open RS in
theorem take_l2 (hc : c ∈ al) (lo : 97 ≤ c ∧ c ≤ 122) (hr : s.ready = true) (hw : waitS s 43 = some t) : take al s c = some (some ((t.put [.str "letter", .str (S [c])]).setB true)) := by
  unfold take
  rw [if_pos (.inl hc)]
  unfold begin1
  rw [if_pos hr, hw]
  show Option.map some (some (begin2 al t c)) = _
  unfold begin2
  rw [if_neg (by omega), if_neg (by omega), if_neg (by omega), if_neg (by omega)]
  rfl
open RS in
theorem take_open (ho : c = 40 ∨ c = 126) (hr : s.ready = false) : take al s c = some (some (s.addW c)) := by
  unfold take
  rw [if_pos (.inr (by rcases ho with rfl | rfl <;> decide))]
  unfold begin1
  rw [if_neg (by rw [hr]; exact Bool.false_ne_true)]
  unfold begin2
  rw [if_pos ho]
  rfl
open RS in
theorem take_bar (hn : 124 ∉ al) (hr : s.ready = true) (hw : waitS s 124 = some t) : take al s 124 = some (some t) := by
  unfold take
  rw [if_neg (fun z => z.elim hn (by decide)), if_neg (fun z => z.elim (fun y => y (by decide)) (fun y => by rw [hr] at y; cases y)), if_neg (by decide), if_neg (by decide), hw]
  rfl
open RS in
theorem take_close (hn : 41 ∉ al) (hr : s.ready = true) : take al s 41 = close s := by
  unfold take
  rw [if_neg (fun z => z.elim hn (by decide)), if_neg (fun z => z.elim (fun y => y (by decide)) (fun y => by rw [hr] at y; cases y)), if_neg (by decide), if_pos rfl]
open RS in
theorem take_star {l : Nat} (hn : 42 ∉ al) (hr : s.ready = true) (hl : s.ops.getLast? = some l) : take al s 42 = some (some (s.popO.put [.str "again", nV l])) := by
  unfold take
  rw [if_neg (fun z => z.elim hn (by decide)), if_neg (fun z => z.elim (fun y => y (by decide)) (fun y => by rw [hr] at y; cases y)), if_pos rfl, hl]
open RS in
theorem take_bad (hn : 42 ∉ al) (hr : s.ready = false) : take al s 42 = some none := by
  unfold take
  rw [if_neg (fun z => z.elim hn (by decide)), if_pos (.inr hr)]
end
theorem readP_of {al tx : List Nat} {s t : RS} (h : tx.length ≤ 200) (hr : RS.readL al tx 0 RS.init = some (.inr s)) (hb : s.ready = true) (hd : RS.down 1 (s.wait.length + 1) s = some t) (hw : t.wait = []) : readP al tx = some (.rows t.rows) := by
  unfold readP
  rw [if_neg (by omega), hr]
  show (if s.ready = false then _ else match RS.down 1 (s.wait.length + 1) s with | none => none | some t => if t.wait = [] then some (RR.rows t.rows) else some (.text tx.length)) = _
  rw [if_neg (by rw [hb]; intro z; cases z), hd]
  show (if t.wait = [] then some (RR.rows t.rows) else _) = _
  rw [if_pos hw]
theorem readP_wait {al tx : List Nat} {s t : RS} (h : tx.length ≤ 200) (hr : RS.readL al tx 0 RS.init = some (.inr s)) (hb : s.ready = true) (hd : RS.down 1 (s.wait.length + 1) s = some t) (hw : t.wait ≠ []) : readP al tx = some (.text tx.length) := by
  unfold readP
  rw [if_neg (by omega), hr]
  show (if s.ready = false then _ else match RS.down 1 (s.wait.length + 1) s with | none => none | some t => if t.wait = [] then some (RR.rows t.rows) else some (.text tx.length)) = _
  rw [if_neg (by rw [hb]; intro z; cases z), hd]
  show (if t.wait = [] then some (RR.rows t.rows) else _) = _
  rw [if_neg hw]
theorem readP_nready {al tx : List Nat} {s : RS} (h : tx.length ≤ 200) (hr : RS.readL al tx 0 RS.init = some (.inr s)) (hb : s.ready = false) : readP al tx = some (.text tx.length) := by
  unfold readP
  rw [if_neg (by omega), hr]
  show (if s.ready = false then _ else _) = _
  rw [if_pos hb]
theorem readP_inl {al tx : List Nat} {i : Nat} (h : tx.length ≤ 200) (hr : RS.readL al tx 0 RS.init = some (.inl i)) : readP al tx = some (.text i) := by
  unfold readP
  rw [if_neg (by omega), hr]
theorem addL_wait : ∀ (ls : List Nat) (s : RS), (s.addL ls).wait = s.wait
  | [], s => rfl
  | l :: ls, s => (addL_wait ls _).trans rfl
theorem down_nil {s : RS} (h : s.wait = []) (n : Nat) : RS.down 1 (n + 1) s = some s := by
  unfold RS.down
  rw [h]
  rfl
/-- one letter again and again -/
structure RepS (s : RS) : Prop where
  r : s.ready = true
  w : (s.wait = [] ∧ ∃ a, s.ops = [a]) ∨ (s.wait = [43] ∧ ∃ a b, s.ops = [a, b])
theorem RepS.wait {s : RS} (h : RepS s) (b n : Nat) (hb : b ≤ 3) : ∃ t, RS.down b (n + 2) s = some t ∧ t.wait = [] ∧ ∃ a, t.ops = [a] := by
  obtain ⟨rows, ops, wait, ready⟩ := s
  obtain ⟨h1, h2⟩ := h
  rcases h2 with ⟨h2, a, h3⟩ | ⟨h2, a, d, h3⟩
  · cases h2
    cases h3
    exact ⟨_, rfl, rfl, a, rfl⟩
  · cases h2
    cases h3
    refine ⟨⟨rows ++ [[.str "then", RS.nV a, RS.nV d]], [rows.length], [], ready⟩, ?_, rfl, _, rfl⟩
    show (if b ≤ 3 then RS.down b (n + 1) ⟨rows ++ [[.str "then", RS.nV a, RS.nV d]], [rows.length], [], ready⟩ else _) = _
    rw [if_pos hb]
    rfl
theorem RepS.step {al : List Nat} {s : RS} {c : Nat} (h : RepS s) (hc : c ∈ al) (lo : 97 ≤ c ∧ c ≤ 122) : ∃ t, RS.take al s c = some (some t) ∧ RepS t := by
  have hl : s.wait.length = 0 ∨ s.wait.length = 1 := by
    rcases h.w with ⟨z, _⟩ | ⟨z, _⟩ <;> rw [z]
    · exact .inl rfl
    · exact .inr rfl
  have hd : ∃ t, RS.down 3 (s.wait.length + 1) s = some t ∧ t.wait = [] ∧ ∃ a, t.ops = [a] := by
    rcases h.w with ⟨z, a, z2⟩ | ⟨z, _⟩
    · refine ⟨s, ?_, z, a, z2⟩
      rw [z]
      unfold RS.down
      rw [z]
      rfl
    · rw [z]
      exact h.wait 3 0 (Nat.le_refl _)
  obtain ⟨t, h1, h2, a, h3⟩ := hd
  have hw : RS.waitS s 43 = some ((t.addW 43).setB false) := by
    unfold RS.waitS
    have b : RS.bind 43 = some 3 := by decide
    rw [b]
    show (match RS.down 3 (s.wait.length + 1) s with | none => none | some t => _) = _
    rw [h1]
  refine ⟨_, take_l2 hc lo h.r hw, ⟨rfl, .inr ⟨?_, a, t.rows.length, ?_⟩⟩⟩
  · show t.wait ++ [43] = [43]
    rw [h2]
    rfl
  · show t.ops ++ [t.rows.length] = [a, t.rows.length]
    rw [h3]
    rfl
theorem rep_read {al : List Nat} {c : Nat} (hc : c ∈ al) (lo : 97 ≤ c ∧ c ≤ 122) : ∀ (k i : Nat) {s : RS}, RepS s → ∃ t, RS.readL al (List.replicate k c) i s = some (.inr t) ∧ RepS t
  | 0, i, s, h => ⟨s, readL_end, h⟩
  | k + 1, i, s, h => by
    obtain ⟨t, h1, h2⟩ := h.step hc lo
    obtain ⟨u, h3, h4⟩ := rep_read hc lo k (i + 1) h2
    exact ⟨u, by rw [List.replicate_succ, readL_cons h1]; exact h3, h4⟩
theorem readP_rep {al : List Nat} {c : Nat} (hc : c ∈ al) (lo : 97 ≤ c ∧ c ≤ 122) : ∃ rows, readP al (List.replicate 200 c) = some (.rows rows) := by
  have h1 := take_l1 (s := RS.init) hc lo rfl
  obtain ⟨t, h3, h4⟩ := rep_read hc lo 199 1 (s := (RS.init.put [.str "letter", .str (S [c])]).setB true) ⟨rfl, .inl ⟨rfl, 0, rfl⟩⟩
  have hr : RS.readL al (List.replicate 200 c) 0 RS.init = some (.inr t) := by
    rw [List.replicate_succ, readL_cons h1]
    exact h3
  have hd : ∃ u, RS.down 1 (t.wait.length + 1) t = some u ∧ u.wait = [] := by
    rcases h4.w with ⟨z, a, z2⟩ | ⟨z, _⟩
    · exact ⟨t, down_nil z _, z⟩
    · rw [z]
      obtain ⟨u, q1, q2, _⟩ := h4.wait 1 0 (by decide)
      exact ⟨u, q1, q2⟩
  obtain ⟨u, q1, q2⟩ := hd
  exact ⟨_, readP_of (by rw [List.length_replicate]; exact Nat.le_refl _) hr h4.r q1 q2⟩
def good10 (c d : Nat) : List (List Nat) := [[c], [c, d], [48], [49], [46], [c, 42], [126, c], [c, 124, d], [40, c, d, 41, 42], List.replicate 200 c]
def bad6 (c : Nat) : List (List Nat) := [[], [42], [c, 41], [40, c], [c, 124], List.replicate 201 c]
def where6 : List Nat := [0, 0, 1, 2, 2, 200]
theorem readP_good10 {al : List Nat} {c d : Nat} (hA : AlphOk al) (hc : c ∈ al) (hd : d ∈ al) : ∀ tx ∈ good10 c d, ∃ rows, readP al tx = some (.rows rows) := by
  have lo := hA.lo c hc
  have lod := hA.lo d hd
  have n42 : (42 : Nat) ∉ al := fun z => by have := hA.lo _ z; omega
  have n41 : (41 : Nat) ∉ al := fun z => by have := hA.lo _ z; omega
  have n124 : (124 : Nat) ∉ al := fun z => by have := hA.lo _ z; omega
  have one : ∀ {a : Nat} {s : RS}, RS.take al RS.init a = some (some s) → s.ready = true → s.wait = [] → ∃ rows, readP al [a] = some (.rows rows) := fun {a} {s} h1 h2 h3 => ⟨_, readP_of (by show 1 ≤ 200; decide) ((readL_cons h1).trans readL_end) h2 (down_nil h3 _) h3⟩
  intro tx h
  unfold good10 at h
  simp only [List.mem_cons, List.not_mem_nil, or_false] at h
  rcases h with rfl | rfl | rfl | rfl | rfl | rfl | rfl | rfl | rfl | rfl
  · exact one (take_l1 hc lo rfl) rfl rfl
  · exact ⟨_, readP_of (by show 2 ≤ 200; decide) ((readL_cons (take_l1 hc lo rfl)).trans ((readL_cons (take_l2 hd lod rfl rfl)).trans readL_end)) rfl rfl rfl⟩
  · exact one (s := (RS.init.put [.str "or"]).setB true) (by unfold RS.take; rw [if_pos (.inr (by decide))]; rfl) rfl rfl
  · exact one (s := (RS.init.put [.str "empty"]).setB true) (by unfold RS.take; rw [if_pos (.inr (by decide))]; rfl) rfl rfl
  · exact one (s := ((RS.init.addL al).put (.str "or" :: (List.range al.length).map fun i => RS.nV (0 + i))).setB true) (by unfold RS.take; rw [if_pos (.inr (by decide))]; rfl) rfl (addL_wait al RS.init)
  · exact ⟨_, readP_of (by show 2 ≤ 200; decide) ((readL_cons (take_l1 hc lo rfl)).trans ((readL_cons (take_star n42 rfl rfl)).trans readL_end)) rfl rfl rfl⟩
  · exact ⟨_, readP_of (by show 2 ≤ 200; decide) ((readL_cons (take_open (.inr rfl) rfl)).trans ((readL_cons (take_l1 hc lo rfl)).trans readL_end)) rfl rfl rfl⟩
  · exact ⟨_, readP_of (by show 3 ≤ 200; decide) ((readL_cons (take_l1 hc lo rfl)).trans ((readL_cons (take_bar n124 rfl rfl)).trans ((readL_cons (take_l1 hd lod rfl)).trans readL_end))) rfl rfl rfl⟩
  · exact ⟨_, readP_of (by show 5 ≤ 200; decide) ((readL_cons (take_open (.inl rfl) rfl)).trans ((readL_cons (take_l1 hc lo rfl)).trans ((readL_cons (take_l2 hd lod rfl rfl)).trans ((readL_cons ((take_close n41 rfl).trans rfl)).trans ((readL_cons (take_star n42 rfl rfl)).trans readL_end))))) rfl rfl rfl⟩
  · exact readP_rep hc lo
/-- what a faulty text raises -/
theorem readP_bad6 {al : List Nat} {c : Nat} (hA : AlphOk al) (hc : c ∈ al) : readP al [] = some (.text 0) ∧ readP al [42] = some (.text 0) ∧ readP al [c, 41] = some (.text 1) ∧ readP al [40, c] = some (.text 2) ∧ readP al [c, 124] = some (.text 2) ∧ readP al (List.replicate 201 c) = some .long := by
  have lo := hA.lo c hc
  have n42 : (42 : Nat) ∉ al := fun z => by have := hA.lo _ z; omega
  have n41 : (41 : Nat) ∉ al := fun z => by have := hA.lo _ z; omega
  have n124 : (124 : Nat) ∉ al := fun z => by have := hA.lo _ z; omega
  refine ⟨readP_nready (by show 0 ≤ 200; decide) readL_end rfl, readP_inl (by show 1 ≤ 200; decide) (readL_bad (take_bad n42 rfl)), readP_inl (by show 2 ≤ 200; decide) ((readL_cons (take_l1 hc lo rfl)).trans (readL_bad ((take_close n41 rfl).trans rfl))), ?_, ?_, ?_⟩
  · exact readP_wait (by show 2 ≤ 200; decide) ((readL_cons (take_open (.inl rfl) rfl)).trans ((readL_cons (take_l1 hc lo rfl)).trans readL_end)) rfl rfl (by intro z; cases z)
  · exact readP_nready (by show 2 ≤ 200; decide) ((readL_cons (take_l1 hc lo rfl)).trans ((readL_cons (take_bar n124 rfl rfl)).trans readL_end)) rfl
  · unfold readP
    rw [if_pos (by rw [List.length_replicate]; omega)]
end W8

set_option Elab.async false
set_option linter.all false
set_option maxRecDepth 100000
set_option maxHeartbeats 4000000
namespace W8
open PySem PySem.Spec PyProof.Rows L2 L2E
theorem foldl_one (c : Nat) : ∀ (n : Nat) (x : List Nat), (List.replicate n #[c]).foldl (· ++ ·) x.toArray = (x ++ List.replicate n c).toArray
  | 0, x => by simp
  | n + 1, x => by
    rw [List.replicate_succ, List.foldl_cons]
    have e : x.toArray ++ #[c] = (x ++ [c]).toArray := by simp
    rw [e, foldl_one c n, List.append_assoc]
    rfl
theorem mul_c (c n : Nat) (h : 2 ≤ n) : Txt.mul (S [c]) (n : Int) = S (List.replicate n c) := by
  unfold Txt.mul
  rw [if_neg (by omega), if_neg, Int.toNat_natCast]
  · have := foldl_one c n []
    show (⟨(List.replicate n (#[c] : Array Nat)).foldl (· ++ ·) #[]⟩ : Str) = S (List.replicate n c)
    rw [show (#[] : Array Nat) = ([] : List Nat).toArray from rfl, this]
    rfl
  · intro z
    rcases Bool.or_eq_true _ _ ▸ z with e | e
    · have := beq_iff_eq.mp e
      omega
    · have := beq_iff_eq.mp e
      rw [S_len] at this
      cases this
theorem cut_to (w : List Nat) (k : Nat) : cutS (S w) none (some (k : Int)) = S (w.take k) := by
  unfold cutS
  rw [HT.sIx_none, HT.sIx_nat, List.drop_zero, Nat.sub_zero]
  show S (w.take (min k w.length)) = S (w.take k)
  congr 1
  by_cases h : k ≤ w.length
  · rw [Nat.min_eq_left h]
  · rw [Nat.min_eq_right (by omega), List.take_of_length_le (Nat.le_refl _), List.take_of_length_le (by omega)]
theorem inV_iff {c : Nat} {al : List Nat} : inV (.str (S [c])) (sigL (S al)) = decide (c ∈ al) := by
  by_cases h : c ∈ al
  · rw [decide_eq_true h, inV_sig h]
  · rw [decide_eq_false h]
    cases hh : inV (.str (S [c])) (sigL (S al)) with
    | false => rfl
    | true =>
      unfold inV sigL at hh
      rw [List.any_eq_true] at hh
      obtain ⟨v, hv, e⟩ := hh
      obtain ⟨d, hd, rfl⟩ := List.mem_map.mp hv
      have e2 : (S [d]) = (S [c]) := beq_iff_eq.mp e
      have e3 := S_inj e2
      injection e3 with e3
      subst e3
      exact absurd hd h
def rListS : List V → Hp → VK → Prop := fun xs H Q => ∃ z, xs = [V.str z] ∧ z.length ≤ sizeLine ∧ ∀ l, H l = none → Q (.ref l) (upd H l (.lst (sigL z)))
theorem cr_listS {X : Cx} (hc : X.calm = true) : CallR X (.type "list") rListS := call_listS hc
theorem strOk_name {n : List Nat} (h : ∀ c ∈ n, c < 128) : PyData.strOk (S n) = true := by
  unfold PyData.strOk
  rw [Array.all_eq_true']
  intro c hc
  have hc' : c ∈ n := by
    have : c ∈ n.toArray := hc
    simpa using this
  exact decide_eq_true (by have := h c hc'; omega)
theorem shaped_names {ns : List (List Nat)} (h : ∀ n ∈ ns, ∀ c ∈ n, c < 128) : SeqAt.shaped (.list (ns.map fun n => PyData.str (S n))) = true := by
  unfold SeqAt.shaped
  rw [Bool.and_eq_true]
  refine ⟨?_, decide_eq_true ?_⟩
  · show PyData.canLayAll0 _ = true
    induction ns with
    | nil => rfl
    | cons n ns ih =>
      rw [List.map_cons]
      show (PyData.strOk (S n) && PyData.canLayAll0 _) = true
      rw [strOk_name (h n List.mem_cons_self), ih fun m hm => h m (List.mem_cons_of_mem _ hm)]
      rfl
  · have e : PyData.depthAll (ns.map fun n => PyData.str (S n)) = 0 := by
      clear h
      induction ns with
      | nil => rfl
      | cons n ns ih =>
        rw [List.map_cons]
        show max 0 (PyData.depthAll _) = 0
        rw [ih]
        rfl
    show PyData.depthAll _ + 1 ≤ 64
    rw [e]
    decide
theorem small_lt128 {c : Nat} (h : c ∈ small) : c < 128 := by
  unfold small at h
  obtain ⟨k, hk, rfl⟩ := List.mem_map.mp h
  have := List.mem_range.mp hk
  omega
theorem name_lt {n : List Nat} (h : NameOk n) : ∀ c ∈ n, c < 128 := fun c hc => by
  rcases h.all c hc with g | g
  · exact small_lt128 g
  · unfold digits at g
    obtain ⟨k, hk, rfl⟩ := List.mem_map.mp g
    have := List.mem_range.mp hk
    omega
theorem free_but {K : PySem.W.Frag} {a p x : Addr} {H H' : Hp} (b : But a H H') (s : StOk K H' a p) (h : H' x = none) : H x = none := by
  obtain ⟨i, v, l, m, e⟩ := s.at_
  cases hh : H x with
  | none => rfl
  | some o =>
    have hx : x ≠ a := fun z => by rw [z, e] at h; cases h
    rw [b x o hx hh] at h
    cases h
abbrev sLName : Stmt := top 65
theorem scLName : FnScope ["state", "small", "name", "k"] ["state"] (defScope sLName) := ⟨rfl, rfl, rfl, by decide +kernel, rfl, by decide +kernel, by decide +kernel⟩
def spLName (K : PySem.W.Frag) : Sp := fun vs H Q _ => ∃ (a : Addr), vs = [.ref a] ∧ ∃ p, StOk K H a p ∧ ∀ nm H', NameOk nm → But a H H' → StOk K H' a p → Q (.str (S nm)) H'
abbrev sNamed : Stmt := top 66
theorem scNamed : FnScope ["name", "sign"] ["name"] (defScope sNamed) := ⟨rfl, rfl, rfl, by decide +kernel, rfl, by decide +kernel, by decide +kernel⟩
def spNamed : Sp := fun vs H Q _ => ∃ nm : List Nat, vs = [.str (S nm)] ∧ nm.length ≤ 1000 ∧ (∀ c ∈ nm, c < 128) ∧ ∀ H', Same H H' → Q (.bl (nameB nm)) H'
abbrev sSome : Stmt := top 67
theorem scSome : FnScope ["state", "names", "bad"] ["state", "names"] (defScope sSome) := ⟨rfl, rfl, rfl, by decide +kernel, rfl, by decide +kernel, by decide +kernel⟩
/-- a name that a step may be given -/
def NmFit (n : List Nat) : Prop := n.length ≤ 1000 ∧ ∀ c ∈ n, c < 128
theorem NmFit.of {n : List Nat} (h : NameOk n) : NmFit n := ⟨by have := h.n12; omega, name_lt h⟩
def spSome (K : PySem.W.Frag) : Sp := fun vs H Q _ => ∃ (a N : Addr) (nm : List (List Nat)), vs = [.ref a, .ref N] ∧ H N = some (.lst (sgs nm)) ∧ nm.length = 3 ∧ (∀ n ∈ nm, NameOk n) ∧ ∃ p, StOk K H a p ∧ ∀ n H', NmFit n → But a H H' → StOk K H' a p → Q (.str (S n)) H'
abbrev sText : Stmt := top 68
theorem scText : FnScope ["state", "letters", "one", "other", "texts", "way", "faulty", "where"] ["state", "letters"] (defScope sText) := ⟨rfl, rfl, rfl, by decide +kernel, rfl, by decide +kernel, by decide +kernel⟩
/-- what the law says of a text -/
def faultV : RR → List V
  | .rows _ => []
  | .text i => [.str "ValueError", .str "ToolError", .str "TextError", .int (i : Int)]
  | .long => [.str "ValueError", .str "ToolError", .str "LimitError", .int 200]
def spText (K : PySem.W.Frag) : Sp := fun vs H Q _ => ∃ (a : Addr) (al : List Nat), vs = [.ref a, .str (S al)] ∧ AlphOk al ∧ ∃ p, StOk K H a p ∧ ∀ tx r l fl H', readP al tx = some r → tx.length ≤ 1000 → But a H H' → StOk K H' a p → H' l = some (.lst [.str (S tx), .ref fl]) → H' fl = some (.lst (faultV r)) → H l = none → H fl = none → Q (.ref l) H'
section
variable {P : Program} {w : World} {K : PySem.W.Frag} {mg : Str → Option Value} {base : Heap} {c : Nat → Addr}
theorem ok_lname {f : Addr} {fd : FuncData} (F : Fun K "_law_name" "_law_name" sLName f fd) (tr : mg "range" = none) (cd : Cal P w K mg base "_law_draw" 1 ["state", "many"] (spDraw K)) : FnOk P w K mg base CX0 2 f fd ["state"] (spLName K) := by
  refine F.ok scLName (fun vs H Q E h => ?_) (fun cdv A outer s H vs Q E hr h => ?_)
  · obtain ⟨a, rfl, _⟩ := h
    rfl
  obtain ⟨a, rfl, p, S0, q⟩ := h
  refine ⟨_, (pss_cons (ps_set (i := 1) scLName.nd rfl (Or.inl rfl) pe_str)
    (pss_cons (ps_set (i := 2) scLName.nd rfl (Or.inl rfl) (pixS (pv 1) (pcall cd hr (pa_cons (pv 0) (pa_cons pe_int pa_nil)))))
    (pss_cons (ps_for PassesOwn.never rfl (pi_range1 (by rfl) tr (pa_cons (pixL (pe_lst (pa_cons pe_int (pa_cons pe_int (pa_cons pe_int (pa_cons pe_int pa_nil))))) (pcall cd hr (pa_cons (pv 0) (pa_cons pe_int pa_nil)))) pa_nil)) (pg_name (i := 3) scLName.nd rfl (Or.inl rfl))
      (pss_one (ps_set (i := 2) scLName.nd rfl (Or.inl rfl) (pe_op op_add_str (pv 2) (pixS (pe_op op_add_str (pv 1) pe_str) (pcall cd hr (pa_cons (pv 0) (pa_cons pe_int pa_nil))))))))
    (pss_one (ps_ret (pv 2)))))), ?_⟩
  have hsd : (small ++ digits).length = 36 := by decide
  refine ⟨_, rfl, _, rfl, a, 26, rfl, by omega, by omega, p, S0, fun r H1 r0 r1 B1 S1 => ⟨S small, r, _, by rw [small_eq], rfl, by decide, small_at r0 r1, ?_⟩⟩
  refine ⟨by show 4 ≤ sizeLine; decide, fun l hl => ?_⟩
  have s2 := same_new hl (.lst [.int 0, .int 1, .int 2, .int 11])
  refine ⟨_, rfl, a, 4, rfl, by omega, by omega, p, S1.mono s2, fun k H3 k0 k1 B3 S3 => ?_⟩
  have nla : l ≠ a := fun z => by
    obtain ⟨i', v', l', m', h9⟩ := S1.at_
    rw [← z, hl] at h9
    cases h9
  have hl2 : upd H1 l (.lst [.int 0, .int 1, .int 2, .int 11]) l = some (.lst [.int 0, .int 1, .int 2, .int 11]) := upd_same
  have hl3 := B3 _ _ nla hl2
  have bt : But a H H3 := B1.trans ((But.same0 s2).trans B3)
  have hk : ∃ m : Nat, m ≤ 11 ∧ atI [V.int 0, .int 1, .int 2, .int 11] k = some (.int (m : Int)) := by
    have : k = 0 ∨ k = 1 ∨ k = 2 ∨ k = 3 := by omega
    rcases this with rfl | rfl | rfl | rfl
    · exact ⟨0, by decide, rfl⟩
    · exact ⟨1, by decide, rfl⟩
    · exact ⟨2, by decide, rfl⟩
    · exact ⟨11, by decide, rfl⟩
  obtain ⟨m, hm, hat⟩ := hk
  refine ⟨l, _, _, _, rfl, rfl, SqL.of hl3, hat, _, rfl, by omega, by omega, ?_⟩
  have e0 : ((⟨#[r.toNat + 97]⟩ : Str)) = S [r.toNat + 97] := rfl
  refine for_range (lo := 0) (n := m) (fun i σ H' => ∃ (nm : List Nat) (z : Option V), σ = [some (.ref a), some (.str "abcdefghijklmnopqrstuvwxyz"), some (.str (S nm)), z] ∧ NameOk nm ∧ nm.length ≤ 1 + i ∧ But a H H' ∧ StOk K H' a p)
    ⟨[r.toNat + 97], none, rfl, ⟨by show 1 ≤ 1; decide, by show 1 ≤ 12; decide, fun c hc => ?_, fun c hc => ?_⟩, by show 1 ≤ 1; decide, bt, S3⟩ ?_ ?_
  · cases hc
    exact mem_small3 (by omega) (by omega)
  · rw [List.mem_singleton.mp hc]
    exact .inl (mem_small3 (by omega) (by omega))
  · rintro i σ H4 hi ⟨nm, z, rfl, hok, hlen, B4, S4⟩
    refine ⟨_, rfl, _, rfl, _, _, rfl, rfl, sz (by show 26 + 10 ≤ 100000; decide), _, rfl, a, 36, rfl, by omega, by omega, p, S4, fun u H5 u0 u1 B5 S5 => ?_⟩
    rw [small_eq, digits_eq, S_app]
    obtain ⟨ch, hch, _, hat5⟩ := at_S (w := small ++ digits) u0 (by rw [hsd]; omega)
    refine ⟨_, _, ch, rfl, rfl, sz (by rw [S_len, hsd]; decide), hat5, _, _, rfl, rfl, sz (by rw [S_len]; show nm.length + 1 ≤ 100000; omega), ?_⟩
    rw [S_one, S_app]
    refine ⟨nm ++ [ch], _, by rw [← small_eq]; rfl, ⟨?_, ?_, fun c hc => ?_, fun c hc => ?_⟩, by rw [List.length_append]; show _ + 1 ≤ _; omega, B4.trans B5, S5⟩
    · rw [List.length_append]; exact Nat.le_add_left _ _
    · rw [List.length_append]; show _ + 1 ≤ 12; omega
    · have h1 := hok.n1
      rw [List.getElem?_append_left (by omega)] at hc
      exact hok.hd c hc
    · rcases List.mem_append.mp hc with g | g
      · exact hok.all c g
      · rw [List.mem_singleton.mp g]
        exact List.mem_append.mp hch
  · rintro σ H4 ⟨nm, z, rfl, hok, hlen, B4, S4⟩
    exact ⟨_, rfl, q nm H4 hok B4 S4⟩
theorem ok_named {f : Addr} {fd : FuncData} (F : Fun K "_law_named" "_law_named" sNamed f fd) (tl : mg "len" = none) (ti : mg "list" = none) : FnOk P w K mg base CX0 1 f fd ["name"] spNamed := by
  refine F.ok scNamed (fun vs H Q E h => ?_) (fun cdv A outer s H vs Q E hr h => ?_)
  · obtain ⟨nm, rfl, _⟩ := h
    rfl
  obtain ⟨nm, rfl, hn, h128, q⟩ := h
  refine ⟨_, (pss_cons (ps_if (PW.pt (pw_or (pt_cmpR op_lt (pB1 call_len_str tl (pv 0)) pe_int (nomark _)) (pw_or (pt_cmpR op_gt (pB1 call_len_str tl (pv 0)) pe_int (nomark _)) (pw_or1 (pt_cmpR op_notIn_seq (pe_slice sl_str (pv 0) po_none (po_some pe_int)) (pT1 (cr_listS rfl) ti pe_str) rfl)))))
      (pss_one (ps_ret pe_bl))
      pss_nil)
    (pss_one (ps_ret (pe_cmpR (op_eqD hr.units) (pe_lc (tt := tTest (tOp (rIn K true) (tVar 1) (tCB rListS (tCons (tC (.str "abcdefghijklmnopqrstuvwxyz0123456789")) tNil)))) (own := [("sign", 1)]) (g := gName 1) rfl scNamed.nd (pi_str (pv 0)) (blkOk_by (own := [("sign", 1)]) (N := ["name", "sign"]) (sc := defScope sNamed) (by decide +kernel)) (fun _ _ _ _ _ => (pg_name (i := 1) scNamed.nd rfl (Or.inl rfl))) (fun _ _ _ _ _ => (pts_one (pt_cmpR op_notIn_seq (pv 1) (pT1 (cr_listS rfl) ti pe_str) rfl))) (fun _ _ _ _ _ => (pv 1))) (pe_lst pa_nil) (nomark _))))), ?_⟩
  have sl : (S nm).length ≤ sizeLine := by rw [S_len]; exact sz (by omega)
  have e36 : ("abcdefghijklmnopqrstuvwxyz0123456789" : Str) = S (small ++ digits) := by decide +kernel
  have bad : ∀ H', Same H H' → nameB nm = false → Q (.bl false) H' := fun H' s' hb => by
    have := q H' s'
    rw [hb] at this
    exact this
  refine ⟨_, rfl, _, rfl, sl, _, _, rfl, rfl, _, rfl, ?_⟩
  rw [S_len]
  refine ite2 (fun h1 => ?_) (fun h1 => ?_)
  · have h1 := of_decide_eq_true h1
    refine ite2 (fun _ => ?_) (fun z => absurd rfl z)
    exact bad H (Same.refl H) (nameB_false.mpr fun n => by have := n.n1; omega)
  have h1 : 1 ≤ nm.length := by
    have : ¬ ((nm.length : Int) < 1) := fun z => h1 (decide_eq_true z)
    omega
  refine ⟨_, rfl, _, rfl, sl, _, _, rfl, rfl, _, rfl, ?_⟩
  rw [S_len]
  refine ite2 (fun h2 => ?_) (fun h2 => ?_)
  · have h2 := of_decide_eq_true h2
    refine ite2 (fun _ => ?_) (fun z => absurd rfl z)
    exact bad H (Same.refl H) (nameB_false.mpr fun n => by have := n.n12; omega)
  have h2 : nm.length ≤ 12 := by
    have : ¬ ((12 : Int) < (nm.length : Int)) := fun z => h2 (decide_eq_true z)
    omega
  cases nm with
  | nil => cases h1
  | cons a r =>
    have e1 : cutS (S (a :: r)) none (some 1) = S [a] := cut_to (a :: r) 1
    refine ⟨_, rfl, _, rfl, _, rfl, sl, ?_⟩
    rw [e1]
    refine ⟨_, rfl, by decide, fun l hl => ?_⟩
    have s1 := same_new hl (.lst (sigL "abcdefghijklmnopqrstuvwxyz"))
    have hl1 : upd H l (.lst (sigL "abcdefghijklmnopqrstuvwxyz")) l = some (.lst (sigL (S small))) := by rw [upd_same, small_eq]
    generalize upd H l (.lst (sigL "abcdefghijklmnopqrstuvwxyz")) = H1 at *
    refine ⟨l, _, rfl, .inl (SqL.of hl1), rfl, flat_sig small, _, rfl, ?_⟩
    show if (!inV (.str (S [a])) (sigL (S small))) = true then _ else _
    rw [inV_iff]
    refine ite2 (fun h3 => ?_) (fun h3 => ?_)
    · exact bad H1 s1 (nameB_false.mpr fun n => decF h3 (n.hd a rfl))
    have ha : a ∈ small := decT h3
    refine ⟨_, rfl, _, rfl, fun D hD => ?_⟩
    refine L2.lc_it L2.walk_str (fun i H' => Same H H' ∧ H1 D = none ∧ H' D = some (.lst (sgs ((((a :: r).take i).filter fun c => decide (c ∉ small ++ digits)).map fun c => [c])))) ⟨s1.trans (same_new hD _), hD, upd_same⟩ (fun _ _ _ _ => trivial) ?_ ?_
    · rintro i x H2 H3 hi ⟨s2, hD0, hD2⟩ ⟨rfl, ch, hc, rfl⟩
      have hc' : (a :: r)[i]? = some ch := by
        rw [← hc]
        show (a :: r)[i]? = (a :: r).toArray[i]?
        simp
      have hfl : (((a :: r).take (i + 1)).filter fun c => decide (c ∉ small ++ digits)).map (fun c => [c]) = (((a :: r).take i).filter fun c => decide (c ∉ small ++ digits)).map (fun c => [c]) ++ if decide (ch ∉ small ++ digits) = true then [[ch]] else [] := by
        rw [List.take_add_one, hc', List.filter_append, List.map_append]
        show _ ++ List.map _ (List.filter _ [ch]) = _
        rw [List.filter_cons]
        split <;> rfl
      have hlen : (sgs ((((a :: r).take i).filter fun c => decide (c ∉ small ++ digits)).map fun c => [c])).length ≤ 12 := by
        rw [sgs_len, List.length_map]
        have h8 := List.length_filter_le (fun c => decide (c ∉ small ++ digits)) ((a :: r).take i)
        rw [List.length_take] at h8
        omega
      refine ⟨rfl, _, rfl, _, rfl, by decide, fun l2 hl2 => ?_⟩
      have s3 := same_new hl2 (.lst (sigL "abcdefghijklmnopqrstuvwxyz0123456789"))
      have hl3 : upd H3 l2 (.lst (sigL "abcdefghijklmnopqrstuvwxyz0123456789")) l2 = some (.lst (sigL (S (small ++ digits)))) := by rw [upd_same, e36]
      generalize upd H3 l2 (.lst (sigL "abcdefghijklmnopqrstuvwxyz0123456789")) = H4 at *
      refine ⟨l2, _, rfl, .inl (SqL.of hl3), rfl, flat_sig (small ++ digits), _, rfl, ?_⟩
      show if (!inV (.str (S [ch])) (sigL (S (small ++ digits)))) = true then _ else _
      rw [inV_iff]
      have hDH : H D = none := s1.free hD0
      refine ite2 (fun h4 => ?_) (fun h4 => ?_)
      · refine ⟨_, rfl, _, s3 _ _ hD2, small_lt (by omega), same_upd (s2.trans s3) hDH, hD0, ?_⟩
        rw [upd_same, hfl, if_pos (decide_eq_true (decF h4)), sgs_app]
        rfl
      · refine ⟨s2.trans s3, hD0, ?_⟩
        rw [s3 _ _ hD2, hfl, if_neg (fun z => (of_decide_eq_true (p := ch ∉ small ++ digits) z) (decT h4)), List.append_nil]
    · rintro H2 ⟨s2, hD0, hD2⟩
      have e : (a :: r).take (S (a :: r)).cps.size = a :: r := List.take_of_length_le (by show (a :: r).length ≤ (a :: r).toArray.size; simp)
      rw [e] at hD2
      refine ⟨Nat.zero_le _, fun n hn => ?_⟩
      have s4 := same_new hn (.lst [])
      have h1' : ∀ m ∈ (((a :: r).filter fun c => decide (c ∉ small ++ digits)).map fun c => [c]), ∀ x ∈ m, x < 128 := fun m hm x hx => by
        obtain ⟨d, hd, rfl⟩ := List.mem_map.mp hm
        rw [List.mem_singleton.mp hx]
        exact h128 d (List.mem_filter.mp hd).1
      refine ⟨.list ((((a :: r).filter fun c => decide (c ∉ small ++ digits)).map fun c => [c]).map fun n => .str (S n)), .list [], .lst (SqL.of (s4 _ _ hD2)) (dp_sgs _), .lst (SqL.of upd_same) .nil, shaped_names h1', by decide +kernel, ?_⟩
      have fin := q _ (s2.trans s4)
      have hb : nameB (a :: r) = PyData.eqv (.list ((((a :: r).filter fun c => decide (c ∉ small ++ digits)).map fun c => [c]).map fun n => .str (S n))) (.list []) := by
        cases hf : (a :: r).filter fun c => decide (c ∉ small ++ digits) with
        | nil =>
          have : nameB (a :: r) = true := nameB_iff.mpr ⟨h1, h2, fun c hc => by cases hc; exact ha, fun c hc => by
            rw [List.filter_eq_nil_iff] at hf
            have := hf c hc
            exact List.mem_append.mp (Classical.byContradiction fun z => this (decide_eq_true z))⟩
          rw [this]
          rfl
        | cons x xs =>
          have hx : x ∈ (a :: r).filter fun c => decide (c ∉ small ++ digits) := by rw [hf]; exact List.mem_cons_self
          have : nameB (a :: r) = false := nameB_false.mpr fun n => of_decide_eq_true (List.mem_filter.mp hx).2 (List.mem_append.mpr (n.all x (List.mem_filter.mp hx).1))
          rw [this]
          rfl
      rw [hb] at fin
      exact fin
end
end W8

set_option Elab.async false
set_option linter.all false
set_option maxRecDepth 100000
set_option maxHeartbeats 4000000
namespace W8
open PySem PySem.Spec PyProof.Rows L2 L2E
def bads : List (List Nat) := [[], [65], [49, 97], [97, 95, 98], [97, 98, 99, 100, 101, 102, 103, 104, 105, 106, 107, 108, 109], [97, 32, 98], [97, 61, 98], [97, 62, 98], [45, 97], [97, 66]]
theorem bads_eq : [V.str "", V.str "A", V.str "1a", V.str "a_b", V.str "abcdefghijklm", V.str "a b", V.str "a=b", V.str "a>b", V.str "-a", V.str "aB"] = sgs bads := by decide +kernel
theorem bads_fit : ∀ n ∈ bads, NmFit n := by
  intro n hn
  unfold bads at hn
  simp only [List.mem_cons, List.not_mem_nil, or_false] at hn
  rcases hn with rfl | rfl | rfl | rfl | rfl | rfl | rfl | rfl | rfl | rfl <;> exact ⟨by decide, by decide⟩
theorem c42s : (")*" : Str) = S [41, 42] := by decide +kernel
theorem c0 : ("" : Str) = S [] := by decide +kernel
section
variable {P : Program} {w : World} {K : PySem.W.Frag} {mg : Str → Option Value} {base : Heap} {c : Nat → Addr}
theorem ok_some {f : Addr} {fd : FuncData} (F : Fun K "_law_some_name" "_law_some_name" sSome f fd) (cd : Cal P w K mg base "_law_draw" 1 ["state", "many"] (spDraw K)) : FnOk P w K mg base CX0 2 f fd ["state", "names"] (spSome K) := by
  refine F.ok scSome (fun vs H Q E h => ?_) (fun cdv A outer s H vs Q E hr h => ?_)
  · obtain ⟨a, N, nm, rfl, _⟩ := h
    rfl
  obtain ⟨a, N, nm, rfl, hN, hl3, hok, p, S0, q⟩ := h
  refine ⟨_, (pss_cons (ps_if (pt_cmpR op_eq (pcall cd hr (pa_cons (pv 0) (pa_cons pe_int pa_nil))) pe_int (nomark _))
      (pss_cons (ps_set (i := 2) scSome.nd rfl (Or.inl rfl) (pe_lst (pa_cons pe_str (pa_cons pe_str (pa_cons pe_str (pa_cons pe_str (pa_cons pe_str (pa_cons pe_str (pa_cons pe_str (pa_cons pe_str (pa_cons pe_str (pa_cons pe_str pa_nil))))))))))))
      (pss_one (ps_ret (pixL (pv 2) (pcall cd hr (pa_cons (pv 0) (pa_cons pe_int pa_nil)))))))
      pss_nil)
    (pss_one (ps_ret (pixL (pv 1) (pcall cd hr (pa_cons (pv 0) (pa_cons pe_int pa_nil))))))), ?_⟩
  refine ⟨_, rfl, a, 8, rfl, by omega, by omega, p, S0, fun r H1 r0 r1 B1 S1 => ⟨rfl, _, rfl, ?_⟩⟩
  refine ite2 (fun _ => ?_) (fun _ => ?_)
  · refine ⟨by show 10 ≤ sizeLine; decide, fun l hl => ?_⟩
    rw [bads_eq]
    have s2 := same_new hl (.lst (sgs bads))
    have hl2 : upd H1 l (.lst (sgs bads)) l = some (.lst (sgs bads)) := upd_same
    generalize upd H1 l (.lst (sgs bads)) = H2 at *
    have nla : l ≠ a := fun z => by
      obtain ⟨i', v', l', m', h9⟩ := S1.at_
      rw [← z, hl] at h9
      cases h9
    refine ⟨_, rfl, _, rfl, a, 10, rfl, by omega, by omega, p, S1.mono s2, fun u H3 u0 u1 B3 S3 => ?_⟩
    obtain ⟨n, hn, hat⟩ := at_sgs (ns := bads) u0 (by show u < 10; omega)
    exact ⟨l, _, _, _, rfl, rfl, SqL.of (B3 _ _ nla hl2), hat, q n H3 (bads_fit n hn) (B1.trans ((But.same0 s2).trans B3)) S3⟩
  · have nNa := S0.ne_sgs hN
    refine ⟨_, rfl, _, rfl, a, 3, rfl, by omega, by omega, p, S1, fun u H3 u0 u1 B3 S3 => ?_⟩
    obtain ⟨n, hn, hat⟩ := at_sgs (ns := nm) u0 (by rw [hl3]; omega)
    exact ⟨N, _, _, _, rfl, rfl, SqL.of (B3 _ _ nNa (B1 _ _ nNa hN)), hat, q n H3 (.of (hok n hn)) (B1.trans B3) S3⟩
theorem at_nth {xs : List (List Nat)} {u : Int} (h0 : 0 ≤ u) (h1 : u < (xs.length : Int)) : ∃ n, xs[u.toNat]? = some n ∧ n ∈ xs ∧ atI (sgs xs) u = some (.str (S n)) := by
  have hi : u.toNat < xs.length := by omega
  have ei : u = (u.toNat : Int) := by omega
  refine ⟨xs[u.toNat], List.getElem?_eq_getElem hi, List.getElem_mem hi, ?_⟩
  unfold atI ixN
  rw [if_pos h0, sgs_len, if_pos h1]
  show (sgs xs)[u.toNat]? = _
  unfold sgs
  rw [List.getElem?_map, List.getElem?_eq_getElem hi]
  rfl
theorem ok_text {f : Addr} {fd : FuncData} (F : Fun K "_law_text" "_law_text" sText f fd) (tl : mg "len" = none) (cd : Cal P w K mg base "_law_draw" 1 ["state", "many"] (spDraw K)) : FnOk P w K mg base CX0 2 f fd ["state", "letters"] (spText K) := by
  refine F.ok scText (fun vs H Q E h => ?_) (fun cdv A outer s H vs Q E hr h => ?_)
  · obtain ⟨a, al, rfl, _⟩ := h
    rfl
  obtain ⟨a, al, rfl, hA, p, S0, q⟩ := h
  have n1 := hA.n1
  have n3 := hA.n3
  refine ⟨_, (pss_cons (ps_set (i := 2) scText.nd rfl (Or.inl rfl) (pixS (pv 1) (pcall cd hr (pa_cons (pv 0) (pa_cons (pB1 call_len_str tl (pv 1)) pa_nil)))))
    (pss_cons (ps_set (i := 3) scText.nd rfl (Or.inl rfl) (pixS (pv 1) (pcall cd hr (pa_cons (pv 0) (pa_cons (pB1 call_len_str tl (pv 1)) pa_nil)))))
    (C8.pss_cut (ps_set (i := 4) scText.nd rfl (Or.inl rfl) (pe_lst (pa_cons (pv 2) (pa_cons (pe_op op_add_str (pv 2) (pv 3)) (pa_cons pe_str (pa_cons pe_str (pa_cons pe_str (pa_cons (pe_op op_add_str (pv 2) pe_str) (pa_cons (pe_op op_add_str pe_str (pv 2)) (pa_cons (pe_op op_add_str (pe_op op_add_str (pv 2) pe_str) (pv 3)) (pa_cons (pe_op op_add_str (pe_op op_add_str (pe_op op_add_str pe_str (pv 2)) (pv 3)) pe_str) (pa_cons (pe_op op_mulS (pv 2) pe_int) pa_nil))))))))))))
    (pss_cons (ps_set (i := 5) scText.nd rfl (Or.inl rfl) (pcall cd hr (pa_cons (pv 0) (pa_cons pe_int pa_nil))))
    (pss_cons (ps_if (pt_cmpR op_lt (pv 5) pe_int (nomark _))
      (pss_one (ps_ret (pe_lst (pa_cons (pixL (pv 4) (pv 5)) (pa_cons (pe_lst pa_nil) pa_nil)))))
      pss_nil)
    (C8.pss_cut (ps_set (i := 6) scText.nd rfl (Or.inl rfl) (pe_lst (pa_cons pe_str (pa_cons pe_str (pa_cons (pe_op op_add_str (pv 2) pe_str) (pa_cons (pe_op op_add_str pe_str (pv 2)) (pa_cons (pe_op op_add_str (pv 2) pe_str) (pa_cons (pe_op op_mulS (pv 2) pe_int) pa_nil))))))))
    (pss_cons (ps_set (i := 7) scText.nd rfl (Or.inl rfl) (pixL (pe_lst (pa_cons pe_int (pa_cons pe_int (pa_cons pe_int (pa_cons pe_int (pa_cons pe_int (pa_cons pe_int pa_nil))))))) (pe_op op_sub (pv 5) pe_int)))
    (pss_cons (ps_if (pt_cmpR op_eq (pv 5) pe_int (nomark _))
      (pss_one (ps_ret (pe_lst (pa_cons (pixL (pv 6) pe_int) (pa_cons (pe_lst (pa_cons pe_str (pa_cons pe_str (pa_cons pe_str (pa_cons (pv 7) pa_nil))))) pa_nil)))))
      pss_nil)
    (pss_one (ps_ret (pe_lst (pa_cons (pixL (pv 6) (pe_op op_sub (pv 5) pe_int)) (pa_cons (pe_lst (pa_cons pe_str (pa_cons pe_str (pa_cons pe_str (pa_cons (pv 7) pa_nil))))) pa_nil))))))))))))), ?_⟩
  have sl : (S al).length ≤ sizeLine := by rw [S_len]; exact sz (by omega)
  refine ⟨_, rfl, _, rfl, _, rfl, _, rfl, sl, a, _, rfl, by rw [S_len]; omega, by rw [S_len]; omega, _, S0, fun r H1 r0 r1 B1 S1 => ?_⟩
  rw [S_len] at r1
  obtain ⟨x, hx, _, hatx⟩ := at_S (w := al) r0 r1
  refine ⟨_, _, x, rfl, rfl, sl, hatx, ?_⟩
  refine ⟨_, rfl, _, rfl, _, rfl, _, rfl, sl, a, _, rfl, by rw [S_len]; omega, by rw [S_len]; omega, _, S1, fun r' H2 r0' r1' B2 S2 => ?_⟩
  rw [S_len] at r1'
  obtain ⟨d, hd, _, hatd⟩ := at_S (w := al) r0' r1'
  refine ⟨_, _, d, rfl, rfl, sl, hatd, ?_⟩
  have hgood := readP_good10 hA hx hd
  have hbad := readP_bad6 hA hx
  have lo := hA.lo x hx
  refine ⟨fun σ' H' => ∃ T, σ' = [some (.ref a), some (.str (S al)), some (.str (S [x])), some (.str (S [d])), some (.ref T), none, none, none] ∧ Same H2 H' ∧ H' T = some (.lst (sgs (good10 x d))) ∧ T ≠ a, ?_, ?_⟩
  · refine ⟨_, rfl, _, rfl, _, rfl, _, _, rfl, rfl, sz (by show 1 + 1 ≤ 100000; decide), _, rfl, _, _, rfl, rfl, sz (by show 1 + 1 ≤ 100000; decide), _, rfl, _, _, rfl, rfl, sz (by show 1 + 1 ≤ 100000; decide),
      _, rfl, _, _, rfl, rfl, sz (by show 1 + 1 ≤ 100000; decide), _, rfl, _, _, rfl, rfl, sz (by show 2 + 1 ≤ 100000; decide),
      _, rfl, _, _, rfl, rfl, sz (by show 1 + 1 ≤ 100000; decide), _, rfl, _, _, rfl, rfl, sz (by show 2 + 1 ≤ 100000; decide), _, _, rfl, rfl, sz (by show 3 + 2 ≤ 100000; decide),
      _, rfl, _, _, rfl, rfl, by show 1 ≤ 1000; decide, by decide, by decide, by show 10 ≤ sizeLine; decide, fun T hT => ⟨T, rfl, same_new hT _, ?_, fun z => ?_⟩⟩
    · rw [upd_same]
      show some (HO.lst [V.str (S [x]), V.str (S [x] ++ S [d]), V.str "0", V.str "1", V.str ".", V.str (S [x] ++ "*"), V.str ("~" ++ S [x]), V.str (S [x] ++ "|" ++ S [d]), V.str ("(" ++ S [x] ++ S [d] ++ ")*"), V.str (Txt.mul (S [x]) (200 : Int))]) = _
      rw [c48, c49, c46, c42, c126, c124, c40, c42s, S_app, S_app, S_app, S_app, S_app, S_app, S_app, S_app, show (200 : Int) = ((200 : Nat) : Int) from rfl, mul_c x 200 (by decide)]
      rfl
    · obtain ⟨i', v', l', m', h9⟩ := S2.at_
      rw [← z, hT] at h9
      cases h9
  rintro σ' H3 ⟨T, rfl, s3, hT3, nTa⟩
  have S3 := S2.mono s3
  refine ⟨_, rfl, a, 16, rfl, by omega, by omega, _, S3, fun u H4 u0 u1 B4 S4 => ?_⟩
  have hT4 := B4 _ _ nTa hT3
  have bt : But a H H4 := B1.trans (B2.trans ((But.same0 s3).trans B4))
  clear hT3 B4 S3 s3 B1 B2 S1 S2
  refine ⟨_, rfl, _, _, rfl, rfl, _, rfl, ?_⟩
  have fin : ∀ (tx : List Nat) (r : RR) (l fl : Addr) (H' : Hp), readP al tx = some r → tx.length ≤ 1000 → Same H4 H' → H' l = some (.lst [.str (S tx), .ref fl]) → H' fl = some (.lst (faultV r)) → H4 l = none → H4 fl = none → Q (.ref l) H' := fun tx r l fl H' h1 h2 s' h3 h4 h5 h6 =>
    q tx r l fl H' h1 h2 (bt.trans (But.same0 s')) (S4.mono s') h3 h4 (free_but bt S4 h5) (free_but bt S4 h6)
  refine ite2 (fun h => ?_) (fun h => ?_)
  · have hu : u < 10 := of_decide_eq_true h
    obtain ⟨tx, _, htx, hat⟩ := at_nth (xs := good10 x d) u0 (by show u < 10; exact hu)
    obtain ⟨rows, hrow⟩ := hgood tx htx
    have := readP_len hrow
    refine ⟨_, rfl, _, rfl, T, _, _, _, rfl, rfl, SqL.of hT4, hat, Nat.zero_le _, fun fl hfl => ⟨by show 2 ≤ sizeLine; decide, fun l hl => ?_⟩⟩
    have s5 := same_new hfl (.lst [])
    exact fin tx _ l fl _ hrow (by omega) (s5.trans (same_new hl _)) upd_same (same_new hl _ _ _ upd_same) (s5.free hl) hfl
  have hu : 10 ≤ u := by
    have : ¬ u < 10 := fun z => h (decide_eq_true z)
    omega
  refine ⟨fun σ' H' => ∃ T, σ' = [some (.ref a), some (.str (S al)), some (.str (S [x])), some (.str (S [d])), σ'[4]?.getD none, some (.int u), some (.ref T), none] ∧ Same H4 H' ∧ H' T = some (.lst (sgs (bad6 x))), ?_, ?_⟩
  · refine ⟨_, rfl, _, _, rfl, rfl, sz (by show 1 + 1 ≤ 100000; decide), _, rfl, _, _, rfl, rfl, sz (by show 1 + 1 ≤ 100000; decide), _, rfl, _, _, rfl, rfl, sz (by show 1 + 1 ≤ 100000; decide),
      _, rfl, _, _, rfl, rfl, by show 1 ≤ 1000; decide, by decide, by decide, by show 6 ≤ sizeLine; decide, fun T hT => ⟨T, rfl, same_new hT _, ?_⟩⟩
    rw [upd_same]
    show some (HO.lst [V.str "", V.str "*", V.str (S [x] ++ ")"), V.str ("(" ++ S [x]), V.str (S [x] ++ "|"), V.str (Txt.mul (S [x]) (201 : Int))]) = _
    rw [c0, c42, c41, c40, c124, S_app, S_app, S_app, show (201 : Int) = ((201 : Nat) : Int) from rfl, mul_c x 201 (by decide)]
    rfl
  rintro σ' H5 ⟨T6, hσ, s5, hT6⟩
  generalize σ'[4]?.getD none = x4 at hσ
  subst hσ
  refine ⟨by show 6 ≤ sizeLine; decide, fun L hL => ?_⟩
  have s6 := s5.trans (same_new hL (.lst [.int 0, .int 0, .int 1, .int 2, .int 2, .int 200]))
  have hT7 := same_new hL (.lst [.int 0, .int 0, .int 1, .int 2, .int 2, .int 200]) _ _ hT6
  have hL7 : upd H5 L (.lst [.int 0, .int 0, .int 1, .int 2, .int 2, .int 200]) L = some (.lst [.int 0, .int 0, .int 1, .int 2, .int 2, .int 200]) := upd_same
  generalize upd H5 L (.lst [.int 0, .int 0, .int 1, .int 2, .int 2, .int 200]) = H6 at *
  have fin2 : ∀ (tx : List Nat) (r : RR) (l fl : Addr), readP al tx = some r → tx.length ≤ 1000 → ∀ (h5 : H6 fl = none), upd H6 fl (.lst (faultV r)) l = none → Q (.ref l) (upd (upd H6 fl (.lst (faultV r))) l (.lst [.str (S tx), .ref fl])) := fun tx r l fl h1 h2 h5 h6 =>
    fin tx r l fl _ h1 h2 (s6.trans ((same_new h5 _).trans (same_new h6 _))) upd_same (same_new h6 _ _ _ upd_same) (s6.free ((same_new h5 _).free h6)) (s6.free h5)
  have c6 : u = 10 ∨ u = 11 ∨ u = 12 ∨ u = 13 ∨ u = 14 ∨ u = 15 := by omega
  obtain ⟨b1, b2, b3, b4, b5, b6⟩ := hbad
  have cs : (u ≠ 15 ∧ ∃ (i : Nat) (tx : List Nat), atI [V.int 0, .int 0, .int 1, .int 2, .int 2, .int 200] (u - 10) = some (.int (i : Int)) ∧ atI (sgs (bad6 x)) (u - 10) = some (.str (S tx)) ∧ readP al tx = some (.text i) ∧ tx.length ≤ 1000) ∨ u = 15 := by
    rcases c6 with rfl | rfl | rfl | rfl | rfl | rfl
    · exact .inl ⟨by decide, 0, [], rfl, rfl, b1, by decide⟩
    · exact .inl ⟨by decide, 0, [42], rfl, rfl, b2, by decide⟩
    · exact .inl ⟨by decide, 1, [x, 41], rfl, rfl, b3, by show 2 ≤ 1000; decide⟩
    · exact .inl ⟨by decide, 2, [40, x], rfl, rfl, b4, by show 2 ≤ 1000; decide⟩
    · exact .inl ⟨by decide, 2, [x, 124], rfl, rfl, b5, by show 2 ≤ 1000; decide⟩
    · exact .inr rfl
  rcases cs with ⟨e6, i, tx, e2, e3, e4, e5⟩ | rfl
  · refine ⟨_, rfl, _, _, rfl, rfl, L, _, _, _, rfl, rfl, SqL.of hL7, e2, _, rfl, rfl, _, rfl, ?_⟩
    refine ite2 (fun z => absurd (int_eq z) e6) (fun _ => ?_)
    refine ⟨_, rfl, _, rfl, _, _, rfl, rfl, T6, _, _, _, rfl, rfl, SqL.of hT7, e3, _, rfl, by show 4 ≤ sizeLine; decide, fun fl hfl => ⟨by show 2 ≤ sizeLine; decide, fun l hl => ?_⟩⟩
    exact fin2 tx (.text i) l fl e4 e5 hfl hl
  · refine ⟨_, rfl, _, _, rfl, rfl, L, _, _, V.int 200, rfl, rfl, SqL.of hL7, rfl, _, rfl, rfl, _, rfl, ?_⟩
    refine ite2 (fun _ => ?_) (fun z => absurd rfl z)
    refine ⟨_, rfl, T6, _, _, V.str (S (List.replicate 201 x)), rfl, rfl, SqL.of hT7, rfl, _, rfl, by show 4 ≤ sizeLine; decide, fun fl hfl => ⟨by show 2 ≤ sizeLine; decide, fun l hl => ?_⟩⟩
    exact fin2 _ .long l fl b6 (by rw [List.length_replicate]; decide) hfl hl
end
end W8

set_option Elab.async false
set_option linter.all false
set_option maxRecDepth 100000
set_option maxHeartbeats 4000000
namespace W8
open PySem PySem.Spec PyProof.Rows L2 L2E
/-- what is told of G grows by what is new to H -/
structure Gro (G H G' H' : Hp) : Prop where
  g : Same G G'
  h : Same H H'
  s : Same G' H'
  n : ∀ x, G' x ≠ none → G x ≠ none ∨ H x = none
section
variable {G H G' H' H'' : Hp} {x : Addr} {o : HO}
theorem Gro.start (s : Same G H) (s' : Same H H') : Gro G H G H' := ⟨Same.refl G, s', s.trans s', fun x h => .inl h⟩
theorem Gro.same (g : Gro G H G' H') (s : Same H' H'') : Gro G H G' H'' := ⟨g.g, g.h.trans s, g.s.trans s, g.n⟩
theorem Gro.add (g : Gro G H G' H') (hx : H' x = none) : Gro G H (upd G' x o) (upd H' x o) := by
  have gx : G' x = none := g.s.free hx
  refine ⟨g.g.trans (same_new gx o), g.h.trans (same_new hx o), fun b u e => ?_, fun y hy => ?_⟩
  · by_cases hb : b = x
    · subst hb
      rw [upd_same] at e ⊢
      exact e
    · rw [upd_ne hb] at e ⊢
      exact g.s b u e
  · by_cases hb : y = x
    · subst hb
      exact .inr (g.h.free hx)
    · rw [upd_ne hb] at hy
      exact g.n y hy
theorem Gro.reg (g : Gro G H G' H') (hx : H' x = some o) (h0 : H x = none) (gx : G' x = none) : Gro G H (upd G' x o) H' := by
  refine ⟨g.g.trans (same_new gx o), g.h, fun b u e => ?_, fun y hy => ?_⟩
  · by_cases hb : b = x
    · subst hb
      rw [upd_same] at e
      rw [hx]
      exact e
    · rw [upd_ne hb] at e
      exact g.s b u e
  · by_cases hb : y = x
    · subst hb
      exact .inr h0
    · rw [upd_ne hb] at hy
      exact g.n y hy
theorem Gro.put (g : Gro G H G' H') (gx : G' x = none) (h0 : H x = none) : Gro G H G' (upd H' x o) := ⟨g.g, same_upd g.h h0, same_off g.s gx, g.n⟩
end
theorem Gro.trans {G H G1 H1 G2 H2 : Hp} (a : Gro G H G1 H1) (b : Gro G1 H1 G2 H2) : Gro G H G2 H2 := ⟨a.g.trans b.g, a.h.trans b.h, b.s, fun x hx => by
  rcases b.n x hx with z | z
  · exact a.n x z
  · exact .inr (a.h.free z)⟩
/-- a list of new pairs is being made -/
def NP (G H : Hp) (D : Addr) (g : Ent → Ent) (es : List Ent) (i : Nat) (H' : Hp) : Prop := ∃ (G' : Hp) (us : List Addr), us.length = i ∧ Gro G H G' H' ∧ G' D = none ∧ H D = none ∧ H' D = some (.lst (us.map V.ref)) ∧ Paired (fun (t : Addr) (e : Ent) => G' t = some (.tup (prow e))) us ((es.take i).map g)
section
variable {G H H' H3 : Hp} {D tt : Addr} {g : Ent → Ent} {es : List Ent} {i : Nat} {e : Ent}
theorem NP.init (s : Same G H) (hD : H D = none) : NP G H D g es 0 (upd H D (.lst [])) := ⟨G, [], rfl, (Gro.start s (Same.refl H)).put (s.free hD) hD, s.free hD, hD, upd_same, .nil⟩
theorem NP.h (n : NP G H D g es i H') : Same H H' := let ⟨_, _, _, k, _⟩ := n; k.h
theorem NP.step (n : NP G H D g es i H') (he : es[i]? = some e) (hl : es.length ≤ 200) (s : Same H' H3) (ht : H3 tt = none) : ∃ acc, (upd H3 tt (.tup (prow (g e)))) D = some (.lst acc) ∧ acc.length < sizeLine ∧ NP G H D g es (i + 1) (upd (upd H3 tt (.tup (prow (g e)))) D (.lst (acc ++ [.ref tt]))) := by
  obtain ⟨G', us, hu, k, gD, hD, hL, hp⟩ := n
  have hi : i < es.length := (List.getElem?_eq_some_iff.mp he).1
  have k3 := (k.same s).add (o := .tup (prow (g e))) ht
  have htD : tt ≠ D := fun z => by
    have := s _ _ hL
    rw [← z, ht] at this
    cases this
  have gD' : upd G' tt (.tup (prow (g e))) D = none := by rw [upd_ne (Ne.symm htD)]; exact gD
  have kt := same_new ((k.same s).s.free ht) (.tup (prow (g e)))
  refine ⟨us.map V.ref, by rw [upd_ne (Ne.symm htD)]; exact s _ _ hL, small_lt (by rw [List.length_map]; omega), upd G' tt (.tup (prow (g e))), us ++ [tt], by rw [List.length_append, hu]; rfl, k3.put gD' hD, gD', hD, by rw [upd_same, List.map_append]; rfl, ?_⟩
  rw [List.take_add_one, he, List.map_append]
  exact paired_snoc (Paired.mapP hp fun _ _ z => kt _ _ z) upd_same
theorem NP.fin (n : NP G H D g es es.length H') : ∃ G', Gro G H G' H' ∧ Prs G' D (es.map g) := by
  obtain ⟨G', us, hu, k, gD, hD, hL, hp⟩ := n
  rw [List.take_length] at hp
  have kt := same_new gD (.lst (us.map V.ref))
  exact ⟨_, k.reg hL hD gD, us, upd_same, Paired.mapP hp fun _ _ z => kt _ _ z⟩
end
def Flt.nm : Flt → Str
  | .name _ => "NameFault"
  | .text _ => "TextError"
  | .lim _ => "LimitError"
def dueV (f : Flt) : List V := [.str "ValueError", .str "ToolError", .str f.nm, f.v]
def resV : Flt ⊕ List Ent → List V
  | .inl f => dueV f
  | .inr _ => []
theorem prs_in {G H : Hp} {l : Addr} {es : List Ent} (s : Same G H) (p : Prs G l es) : Prs H l es := p.mono s
theorem inV_sgs {n : List Nat} {ns : List (List Nat)} : inV (.str (S n)) (sgs ns) = decide (n ∈ ns) := by
  by_cases h : n ∈ ns
  · rw [decide_eq_true h]
    unfold inV sgs
    rw [List.any_eq_true]
    exact ⟨.str (S n), List.mem_map.mpr ⟨n, h, rfl⟩, by show (S n == S n) = true; exact beq_self_eq_true _⟩
  · rw [decide_eq_false h]
    cases hh : inV (.str (S n)) (sgs ns) with
    | false => rfl
    | true =>
      unfold inV sgs at hh
      rw [List.any_eq_true] at hh
      obtain ⟨v, hv, e⟩ := hh
      obtain ⟨d, hd, rfl⟩ := List.mem_map.mp hv
      have e3 := S_inj (show S d = S n from beq_iff_eq.mp e)
      subst e3
      exact absurd hd h
theorem flat_sgs (ns : List (List Nat)) : (sgs ns).all flatV = true := by
  rw [List.all_eq_true]
  intro v hv
  unfold sgs at hv
  obtain ⟨c, _, rfl⟩ := List.mem_map.mp hv
  rfl
theorem inV_told {es : List Ent} {n : List Nat} : inV (.str (S n)) (sgs (es.map (·.1))) = (toldE es n).isSome := by
  rw [inV_sgs]
  cases hh : toldE es n with
  | none => exact decide_eq_false (told_none hh)
  | some t => exact decide_eq_true (List.mem_map.mpr ⟨_, told_mem hh, rfl⟩)
/-- the law's faults as data -/
def faultD : RR → PyData
  | .rows _ => .list []
  | .text i => .list [.str "ValueError", .str "ToolError", .str "TextError", .int (i : Int)]
  | .long => .list [.str "ValueError", .str "ToolError", .str "LimitError", .int 200]
theorem fault_dp {K : PySem.W.Frag} {H : Hp} {a : Addr} {r : RR} (h : H a = some (.lst (faultV r))) : Dp K H (.ref a) (faultD r) := by
  cases r with
  | rows _ => exact .lst (SqL.of h) .nil
  | text i => exact .lst (SqL.of h) (.cons (.str _) (.cons (.str _) (.cons (.str _) (.cons (.int _) .nil))))
  | long => exact .lst (SqL.of h) (.cons (.str _) (.cons (.str _) (.cons (.str _) (.cons (.int _) .nil))))
theorem ok_VE : PyData.strOk "ValueError" = true := by decide +kernel
theorem ok_TE : PyData.strOk "ToolError" = true := by decide +kernel
theorem ok_TX : PyData.strOk "TextError" = true := by decide +kernel
theorem ok_LE : PyData.strOk "LimitError" = true := by decide +kernel
theorem ok_NF : PyData.strOk "NameFault" = true := by decide +kernel
theorem fault_sh (r : RR) : SeqAt.shaped (faultD r) = true := by
  cases r <;> simp [faultD, SeqAt.shaped, PyData.canLay0, PyData.canLayAll0, ok_VE, ok_TE, ok_TX, ok_LE, PyData.depth, PyData.depthAll]
theorem fault_eq (r : RR) : PyData.eqv (faultD r) (.list []) = (match r with | .rows _ => true | _ => false) := by
  cases r <;> simp [faultD, PyData.eqv, PyData.eqvAll]
abbrev sBehind : Stmt := top 69
theorem scBehind : FnScope ["pairs", "kind", "name", "rest", "fault", "room", "names", "pair"] ["pairs", "kind", "name", "rest", "fault", "room"] (defScope sBehind) := ⟨rfl, rfl, rfl, by decide +kernel, rfl, by decide +kernel, by decide +kernel⟩
/-- what the law's kind says of the step -/
def KindOf (G : Hp) (al : List Nat) (fl : Addr) (k : Int) (n rest : List Nat) : Stp → Prop
  | .note n' t' => k = 0 ∧ n' = n ∧ t' = rest ∧ ∃ r, readP al rest = some r ∧ G fl = some (.lst (faultV r))
  | .strike n' => k = 1 ∧ n' = n
  | .ren o' n' => k = 2 ∧ o' = n ∧ n' = rest ∧ NmFit rest
def spBehind : Sp := fun vs H Q _ => ∃ (G : Hp) (l fl : Addr) (k : Int) (n rest al : List Nat) (room : Nat) (es : List Ent) (s : Stp), vs = [.ref l, .int k, .str (S n), .str (S rest), .ref fl, .int (room : Int)] ∧ Same G H ∧ Prs G l es ∧ es.length ≤ 200 ∧ NmFit n ∧ KindOf G al fl k n rest s ∧
  ∀ G' H' x d pl, Gro G H G' H' → G' x = some (.lst [.ref d, .ref pl]) → G' d = some (.lst (resV (stepE al room es s))) → (∀ es', stepE al room es s = .inr es' → Prs G' pl es') → Q (.ref x) H'
def rNeV : R2 := fun x y H Q => scal x y = true ∧ Q (.bl (!decide (x = y))) H
section
variable {P : Program} {w : World} {K : PySem.W.Frag} {mg : Str → Option Value} {base : Heap} {c : Nat → Addr}
theorem ok_behind {f : Addr} {fd : FuncData} (F : Fun K "_law_behind" "_law_behind" sBehind f fd) (tl : mg "len" = none) (ti : mg "int" = none) (cn : Cal P w K mg base "_law_named" 1 ["name"] spNamed) : FnOk P w K mg base CX0 2 f fd ["pairs", "kind", "name", "rest", "fault", "room"] spBehind := by
  refine F.ok scBehind (fun vs H Q E h => ?_) (fun cdv A outer sh H vs Q E hr h => ?_)
  · obtain ⟨G, l, fl, k, n, rest, al, room, es, s, rfl, _⟩ := h
    rfl
  obtain ⟨G, l, fl, k, n, rest, al, room, es, s, rfl, sG, ⟨ts, hl, ht⟩, hlen, hn, hk, q⟩ := h
  refine ⟨_, (pss_cons (ps_setLc (i := 6) (te := tIx K 7 0) (own := [("pair", 7)]) (g := gName 7) (tt := tYes) rfl scBehind.nd rfl rfl (sw_true rfl rfl rfl (by decide +kernel)) (pi_list (pv 0)) (blkOk_by (own := [("pair", 7)]) (N := ["pairs", "kind", "name", "rest", "fault", "room", "names", "pair"]) (sc := defScope sBehind) (by decide +kernel)) (fun _ _ _ _ _ => (pg_name (i := 7) scBehind.nd rfl (Or.inl rfl))) (fun _ _ _ _ _ => pts_nil) (fun _ _ _ _ _ => (pixT (pv 7) pe_int)))
    (pss_cons (ps_if (pt_cmpR op_eq (pv 1) pe_int (nomark _))
      (pss_cons (ps_if (pt_not (pt_truth (pcall cn hr (pa_cons (pv 2) pa_nil)) (by intro _; rfl)))
        (pss_one (ps_ret (pe_lst (pa_cons (pe_lst (pa_cons pe_str (pa_cons pe_str (pa_cons pe_str (pa_cons (pv 2) pa_nil))))) (pa_cons (pv 0) pa_nil)))))
        pss_nil)
      (pss_cons (ps_if (pt_cmpR (op_neD hr.units) (pv 4) (pe_lst pa_nil) (nomark _))
        (pss_one (ps_ret (pe_lst (pa_cons (pv 4) (pa_cons (pv 0) pa_nil)))))
        pss_nil)
      (pss_cons (ps_if (pt_cmpR op_in_seq (pv 2) (pv 6) rfl)
        (pss_one (ps_ret (pe_lst (pa_cons (pe_lst pa_nil) (pa_cons (pe_lc (te := tTup (tCons (tIx K 7 0) (tCons (tOp (rIxL K) (tLst (tCons (tIx K 7 1) (tCons (tVar 3) tNil))) (tCB rIntB (tCons (tOp rEq (tIx K 7 0) (tVar 2)) tNil))) tNil))) (own := [("pair", 7)]) (g := gName 7) (tt := tYes) rfl scBehind.nd (pi_list (pv 0)) (blkOk_by (own := [("pair", 7)]) (N := ["pairs", "kind", "name", "rest", "fault", "room", "names", "pair"]) (sc := defScope sBehind) (by decide +kernel)) (fun _ _ _ _ _ => (pg_name (i := 7) scBehind.nd rfl (Or.inl rfl))) (fun _ _ _ _ _ => pts_nil) (fun _ _ _ _ _ => (pe_tup (pa_cons (pixT (pv 7) pe_int) (pa_cons (pixL (pe_lst (pa_cons (pixT (pv 7) pe_int) (pa_cons (pv 3) pa_nil))) (pT1 (T := "int") (r := rIntB) cr_intB ti (pe_cmpR op_eq (pixT (pv 7) pe_int) (pv 2) (nomark _)))) pa_nil))))) pa_nil)))))
        pss_nil)
      (pss_cons (ps_if (pt_cmpR op_eq (pB1 call_len_seq tl (pv 0)) (pv 5) (nomark _))
        (pss_one (ps_ret (pe_lst (pa_cons (pe_lst (pa_cons pe_str (pa_cons pe_str (pa_cons pe_str (pa_cons (pv 5) pa_nil))))) (pa_cons (pv 0) pa_nil)))))
        pss_nil)
      (pss_one (ps_ret (pe_lst (pa_cons (pe_lst pa_nil) (pa_cons (pe_op op_cat (pv 0) (pe_lst (pa_cons (pe_tup (pa_cons (pv 2) (pa_cons (pv 3) pa_nil))) pa_nil))) pa_nil)))))))))
      pss_nil)
    (pss_cons (ps_if (pt_cmpR op_notIn_seq (pv 2) (pv 6) rfl)
      (pss_one (ps_ret (pe_lst (pa_cons (pe_lst (pa_cons pe_str (pa_cons pe_str (pa_cons pe_str (pa_cons (pv 2) pa_nil))))) (pa_cons (pv 0) pa_nil)))))
      pss_nil)
    (pss_cons (ps_if (pt_cmpR op_eq (pv 1) pe_int (nomark _))
      (pss_one (ps_ret (pe_lst (pa_cons (pe_lst pa_nil) (pa_cons (pe_lc (tt := tTest (tOp rNe (tIx K 7 0) (tVar 2))) (own := [("pair", 7)]) (g := gName 7) rfl scBehind.nd (pi_list (pv 0)) (blkOk_by (own := [("pair", 7)]) (N := ["pairs", "kind", "name", "rest", "fault", "room", "names", "pair"]) (sc := defScope sBehind) (by decide +kernel)) (fun _ _ _ _ _ => (pg_name (i := 7) scBehind.nd rfl (Or.inl rfl))) (fun _ _ _ _ _ => (pts_one (pt_cmpR op_ne (pixT (pv 7) pe_int) (pv 2) (nomark _)))) (fun _ _ _ _ _ => (pv 7))) pa_nil)))))
      pss_nil)
    (pss_cons (ps_if (PW.pt (pw_or (pt_not (pt_truth (pcall cn hr (pa_cons (pv 3) pa_nil)) (by intro _; rfl))) (pw_or1 (pt_cmpR op_in_seq (pv 3) (pv 6) rfl))))
      (pss_one (ps_ret (pe_lst (pa_cons (pe_lst (pa_cons pe_str (pa_cons pe_str (pa_cons pe_str (pa_cons (pv 3) pa_nil))))) (pa_cons (pv 0) pa_nil)))))
      pss_nil)
    (pss_one (ps_ret (pe_lst (pa_cons (pe_lst pa_nil) (pa_cons (pe_lc (te := tTup (tCons (tOp (rIxL K) (tLst (tCons (tIx K 7 0) (tCons (tVar 3) tNil))) (tCB rIntB (tCons (tOp rEq (tIx K 7 0) (tVar 2)) tNil))) (tCons (tIx K 7 1) tNil))) (own := [("pair", 7)]) (g := gName 7) (tt := tYes) rfl scBehind.nd (pi_list (pv 0)) (blkOk_by (own := [("pair", 7)]) (N := ["pairs", "kind", "name", "rest", "fault", "room", "names", "pair"]) (sc := defScope sBehind) (by decide +kernel)) (fun _ _ _ _ _ => (pg_name (i := 7) scBehind.nd rfl (Or.inl rfl))) (fun _ _ _ _ _ => pts_nil) (fun _ _ _ _ _ => (pe_tup (pa_cons (pixL (pe_lst (pa_cons (pixT (pv 7) pe_int) (pa_cons (pv 3) pa_nil))) (pT1 (T := "int") (r := rIntB) cr_intB ti (pe_cmpR op_eq (pixT (pv 7) pe_int) (pv 2) (nomark _)))) (pa_cons (pixT (pv 7) pe_int) pa_nil))))) pa_nil)))))))))), ?_⟩
  have hlt : ts.length = es.length := Paired.length ht
  have hlH := sG _ _ hl
  have htH : Paired (fun (t : Addr) (e : Ent) => H t = some (.tup (prow e))) ts es := Paired.mapP ht fun _ _ z => sG _ _ z
  refine ⟨_, rfl, l, rfl, ⟨_, SqL.of hlH⟩, fun L hL => ?_⟩
  refine L2.lc_it (L2.walk_list (xs := ts.map V.ref)) (fun i H' => Same H H' ∧ H' L = some (.lst (sgs ((es.take i).map (·.1))))) ⟨same_new hL _, upd_same⟩ (fun _ _ _ ⟨s, _⟩ => SqL.of (s _ _ hlH)) ?_ ?_
  · rintro i y H3 H4 hi ⟨s3, hN3⟩ ⟨rfl, hy⟩
    obtain ⟨t, e, rfl, hti, hei, hat⟩ := prs_get htH hy
    refine ⟨rfl, _, rfl, t, _, _, _, rfl, rfl, SqT.of (s3 _ _ hat), at0 _ _, _, hN3, small_lt (by rw [sgs_len, List.length_map, List.length_take]; omega), same_upd s3 hL, ?_⟩
    rw [upd_same, List.take_add_one, hei, List.map_append, sgs_app]
    rfl
  rintro H0 ⟨s0, hL0⟩
  rw [List.length_map, hlt, List.take_length] at hL0
  have g0 : Gro G H G H0 := Gro.start sG s0
  clear hL
  -- the last list
  have fin : ∀ (G1 H1 : Hp) (d pl : Addr), Gro G H G1 H1 → G1 d = some (.lst (resV (stepE al room es s))) → (∀ es', stepE al room es s = .inr es' → Prs G1 pl es') → ∀ x, H1 x = none → Q (.ref x) (upd H1 x (.lst [.ref d, .ref pl])) := fun G1 H1 d pl g1 hd hp x hx => by
    have gx : G1 x = none := g1.s.free hx
    have sn := same_new gx (.lst [.ref d, .ref pl])
    exact q _ _ x d pl (g1.add hx) upd_same (sn _ _ hd) fun es' e => (hp es' e).mono sn
  have er : ∀ (f : Flt), stepE al room es s = .inl f → ∀ e, H0 e = none → ∀ x, upd H0 e (.lst (dueV f)) x = none → Q (.ref x) (upd (upd H0 e (.lst (dueV f))) x (.lst [.ref e, .ref l])) := fun f hf e he x hx =>
    fin _ _ e l (g0.add he) (by rw [upd_same, hf]; rfl) (fun es' z => by rw [hf] at z; cases z) x hx
  cases s with
  | note n' tx =>
    obtain ⟨rfl, rfl, rfl, r, hrd, hfl⟩ := hk
    have hst : stepE al room es (.note n' tx) = noteE al room es n' tx := rfl
    rw [hst] at fin er
    unfold noteE at fin er
    rw [hrd] at fin er
    refine ⟨_, rfl, rfl, _, rfl, ?_⟩
    refine ite2 (fun _ => ?_) (fun z => absurd rfl z)
    refine ⟨_, rfl, n', rfl, hn.1, hn.2, fun H1 s1 => ⟨_, rfl, ?_⟩⟩
    have g1 := g0.same s1
    have hL1 := s1 _ _ hL0
    have hl1 := s1 _ _ (s0 _ _ hlH)
    have htH1 : Paired (fun (t : Addr) (e : Ent) => H1 t = some (.tup (prow e))) ts es := Paired.mapP htH fun _ _ z => s1 _ _ (s0 _ _ z)
    clear er
    have er : ∀ (f : Flt), noteE al room es n' tx = .inl f → ∀ G2 H2, Gro G H G2 H2 → ∀ e, H2 e = none → ∀ x, upd H2 e (.lst (dueV f)) x = none → Q (.ref x) (upd (upd H2 e (.lst (dueV f))) x (.lst [.ref e, .ref l])) := fun f hf G2 H2 g2 e he x hx =>
      fin _ _ e l (g2.add he) (by
        rw [upd_same]
        unfold noteE at hf
        rw [hrd] at hf
        rw [hf]
        rfl) (fun es' z => by
        unfold noteE at hf
        rw [hrd] at hf
        rw [hf] at z
        cases z) x hx
    cases hb : nameB n' with
    | false =>
      refine ite2 (fun _ => ?_) (fun z => absurd rfl z)
      refine ⟨_, rfl, by show 4 ≤ sizeLine; decide, fun e he => ⟨_, rfl, by show 2 ≤ sizeLine; decide, fun x hx => ?_⟩⟩
      exact er (.name n') (by unfold noteE; rw [if_pos hb]) _ _ g1 e he x hx
    | true =>
      refine ite2 (fun z => (by cases z)) (fun _ => ?_)
      have hfl1 := g1.s _ _ hfl
      have nb : ¬ nameB n' = false := by rw [hb]; exact fun z => nomatch z
      rw [if_neg nb] at fin
      refine ⟨_, rfl, Nat.zero_le _, fun m hm => ⟨faultD r, .list [], fault_dp (same_new hm _ _ _ hfl1), .lst (SqL.of upd_same) .nil, fault_sh r, by decide +kernel, _, rfl, ?_⟩⟩
      rw [fault_eq]
      have s2 := same_new hm (.lst [])
      have g2 := g1.same s2
      have hL2 := s2 _ _ hL1
      have hl2 := s2 _ _ hl1
      have htH2 : Paired (fun (t : Addr) (e : Ent) => upd H1 m (.lst []) t = some (.tup (prow e))) ts es := Paired.mapP htH1 fun _ _ z => s2 _ _ z
      have hfl2 := g2.s _ _ hfl
      generalize upd H1 m (.lst []) = H2 at *
      cases r with
      | text i =>
        refine ite2 (fun _ => ?_) (fun z => absurd rfl z)
        refine ⟨_, rfl, _, rfl, by show 2 ≤ sizeLine; decide, fun x hx => ?_⟩
        exact fin G H2 fl l g2 hfl (fun es' z => by cases z) x hx
      | long =>
        refine ite2 (fun _ => ?_) (fun z => absurd rfl z)
        refine ⟨_, rfl, _, rfl, by show 2 ≤ sizeLine; decide, fun x hx => ?_⟩
        exact fin G H2 fl l g2 hfl (fun es' z => by cases z) x hx
      | rows rows =>
        refine ite2 (fun z => (by cases z)) (fun _ => ?_)
        refine ⟨_, rfl, _, rfl, L, _, rfl, .inl (SqL.of hL2), rfl, flat_sgs _, _, rfl, ?_⟩
        show if inV (.str (S n')) (sgs (es.map (·.1))) = true then _ else _
        rw [inV_told]
        replace fin : ∀ (G1 H1 : Hp) (d pl : Addr), Gro G H G1 H1 → G1 d = some (.lst (resV (if toldE es n' = none ∧ es.length = room then .inl (.lim room) else .inr (putE es n' tx)))) → (∀ es', (if toldE es n' = none ∧ es.length = room then Sum.inl (Flt.lim room) else Sum.inr (putE es n' tx)) = .inr es' → Prs G1 pl es') → ∀ x, H1 x = none → Q (.ref x) (upd H1 x (.lst [.ref d, .ref pl])) := fin
        refine ite2 (fun h => ?_) (fun h => ?_)
        · have hs : toldE es n' ≠ none := told_is h
          rw [if_neg (fun z => hs z.1)] at fin
          refine ⟨Nat.zero_le _, fun d hd => ?_⟩
          have g3 := g2.add (o := .lst []) hd
          have s3 := same_new hd (.lst [])
          have hl3 := s3 _ _ hl2
          have htH3 : Paired (fun (t : Addr) (e : Ent) => upd H2 d (.lst []) t = some (.tup (prow e))) ts es := Paired.mapP htH2 fun _ _ z => s3 _ _ z
          have hd3 : upd G d (.lst []) d = some (.lst (resV (.inr (putE es n' tx)))) := upd_same
          generalize upd H2 d (.lst []) = H3 at *
          generalize upd G d (.lst []) = G3 at *
          refine ⟨_, rfl, l, rfl, ⟨_, SqL.of hl3⟩, fun D hD => ?_⟩
          refine L2.lc_it (L2.walk_list (xs := ts.map V.ref)) (NP G3 H3 D (updE n' tx) es) (NP.init g3.s hD) (fun _ _ _ h => SqL.of (h.h _ _ hl3)) ?_ ?_
          · rintro i y H4 H5 hi h4 ⟨rfl, hy⟩
            obtain ⟨t, e, rfl, hti, hei, hat⟩ := prs_get htH3 hy
            have hat4 := h4.h _ _ hat
            refine ⟨rfl, _, rfl, t, _, _, _, rfl, rfl, SqT.of hat4, at0 _ _, _, rfl, t, _, _, _, rfl, rfl, SqT.of hat4, at1 _ _ _, _, rfl, by show 2 ≤ sizeLine; decide, fun m hm => ?_⟩
            have s5 := same_new hm (.lst [.str (S e.2), .str (S tx)])
            refine ⟨_, rfl, t, _, _, _, rfl, rfl, SqT.of (s5 _ _ hat4), at0 _ _, _, rfl, rfl, _, rfl, m, _, _, V.str (S (updE n' tx e).2), rfl, rfl, SqL.of upd_same, ?_, by show 2 ≤ sizeLine; decide, fun tt htt => ?_⟩
            · unfold updE
              by_cases he : e.1 = n'
              · rw [if_pos he, he, decide_eq_true rfl]
                rfl
              · rw [if_neg he, decide_eq_false (fun z => he (S_inj (by injection z)))]
                rfl
            have e9 : [V.str (S e.1), V.str (S (updE n' tx e).2)] = prow (updE n' tx e) := by unfold updE prow; split <;> rfl
            rw [e9]
            exact h4.step hei hlen s5 htt
          · rintro H4 h4
            rw [List.length_map, hlt] at h4
            obtain ⟨G4, k4, p4⟩ := h4.fin
            refine ⟨by show 2 ≤ sizeLine; decide, fun x hx => fin G4 H4 d D (g3.trans k4) (k4.g _ _ hd3) (fun es' z => ?_) x hx⟩
            cases z
            unfold putE
            rw [told_any, if_pos h]
            exact p4
        · have hs : toldE es n' = none := Classical.byContradiction fun z => h (told_dec z)
          refine ⟨_, rfl, l, _, rfl, .inl (SqL.of hl2), _, rfl, rfl, _, rfl, ?_⟩
          rw [List.length_map, hlt]
          refine ite2 (fun h5 => ?_) (fun h5 => ?_)
          · have e9 : V.int (es.length : Int) = V.int (room : Int) := of_decide_eq_true h5
            have e8 : es.length = room := by
              have : (es.length : Int) = (room : Int) := by injection e9
              omega
            refine ⟨_, rfl, by show 4 ≤ sizeLine; decide, fun e he => ⟨_, rfl, by show 2 ≤ sizeLine; decide, fun x hx => ?_⟩⟩
            exact er (.lim room) (by unfold noteE; rw [if_neg nb, hrd]; show (if toldE es n' = none ∧ es.length = room then _ else _) = _; rw [if_pos ⟨hs, e8⟩]) _ _ g2 e he x hx
          · have e8 : es.length ≠ room := fun z => h5 (decide_eq_true (by rw [z]))
            rw [if_neg (fun z => e8 z.2)] at fin
            refine ⟨Nat.zero_le _, fun d hd => ?_⟩
            have g3 := g2.add (o := .lst []) hd
            have s3 := same_new hd (.lst [])
            have hl3 := s3 _ _ hl2
            have ht3 : Paired (fun (t : Addr) (e : Ent) => upd G d (.lst []) t = some (.tup (prow e))) ts es := Paired.mapP ht fun _ _ z => same_new (g2.s.free hd) _ _ _ z
            have hd3 : upd G d (.lst []) d = some (.lst (resV (.inr (putE es n' tx)))) := upd_same
            generalize upd H2 d (.lst []) = H3 at *
            generalize upd G d (.lst []) = G3 at *
            refine ⟨_, rfl, _, rfl, _, rfl, by show 2 ≤ sizeLine; decide, fun tt htt => ⟨by show 1 ≤ sizeLine; decide, fun m hm => ?_⟩⟩
            have g4 := g3.add (o := .tup [.str (S n'), .str (S tx)]) htt
            have s4 := same_new htt (.tup [.str (S n'), .str (S tx)])
            have k4 := same_new (g3.s.free htt) (.tup [.str (S n'), .str (S tx)])
            have htt4 : upd G3 tt (.tup [.str (S n'), .str (S tx)]) tt = some (.tup (prow (n', tx))) := upd_same
            have ht4 : Paired (fun (t : Addr) (e : Ent) => upd G3 tt (.tup [.str (S n'), .str (S tx)]) t = some (.tup (prow e))) ts es := Paired.mapP ht3 fun _ _ z => k4 _ _ z
            have hl4 := s4 _ _ hl3
            have hd4 := k4 _ _ hd3
            generalize upd H3 tt (.tup [.str (S n'), .str (S tx)]) = H4 at *
            generalize upd G3 tt (.tup [.str (S n'), .str (S tx)]) = G4 at *
            have s5 := same_new hm (.lst [.ref tt])
            have g5 := g4.same s5
            refine ⟨l, m, ts.map V.ref, [.ref tt], rfl, rfl, s5 _ _ hl4, upd_same, sz (by rw [List.length_map]; show _ + 1 ≤ _; omega), fun D hD => ⟨by show 2 ≤ sizeLine; decide, fun x hx => ?_⟩⟩
            have k6 := same_new (g5.s.free hD) (.lst (ts.map V.ref ++ [.ref tt]))
            refine fin _ _ d D (g5.add hD) (k6 _ _ hd4) (fun es' z => ?_) x hx
            cases z
            rw [put_new hs]
            exact ⟨ts ++ [tt], by rw [upd_same, List.map_append]; rfl, paired_snoc (Paired.mapP ht4 fun _ _ z => k6 _ _ z) (k6 _ _ htt4)⟩
  | strike n' =>
    obtain ⟨rfl, rfl⟩ := hk
    have hst : stepE al room es (.strike n') = strikeE es n' := rfl
    rw [hst] at fin er
    unfold strikeE at fin er
    have hl0 := s0 _ _ hlH
    refine ⟨_, rfl, rfl, _, rfl, ?_⟩
    refine ite2 (fun z => absurd (int_eq z) (by decide)) (fun _ => ?_)
    refine ⟨_, rfl, _, rfl, L, _, rfl, .inl (SqL.of hL0), rfl, flat_sgs _, _, rfl, ?_⟩
    show if (!inV (.str (S n')) (sgs (es.map (·.1)))) = true then _ else _
    rw [inV_told]
    refine ite2 (fun h => ?_) (fun h => ?_)
    · have hs : toldE es n' = none := Classical.byContradiction fun z => by rw [told_dec z] at h; cases h
      refine ⟨_, rfl, by show 4 ≤ sizeLine; decide, fun e he => ⟨_, rfl, by show 2 ≤ sizeLine; decide, fun x hx => ?_⟩⟩
      exact er (.name n') (by rw [if_pos hs]) e he x hx
    have hs : toldE es n' ≠ none := fun z => h (by rw [z]; rfl)
    rw [if_neg hs] at fin
    refine ⟨_, rfl, rfl, _, rfl, ?_⟩
    refine ite2 (fun _ => ?_) (fun z => absurd rfl z)
    refine ⟨Nat.zero_le _, fun d hd => ?_⟩
    have g3 := g0.add (o := .lst []) hd
    have s3 := same_new hd (.lst [])
    have k3 := same_new (g0.s.free hd) (.lst [])
    have hl3 := s3 _ _ hl0
    have ht3 : Paired (fun (t : Addr) (e : Ent) => upd G d (.lst []) t = some (.tup (prow e))) ts es := Paired.mapP ht fun _ _ z => k3 _ _ z
    have hd3 : upd G d (.lst []) d = some (.lst (resV (.inr (dropE es n')))) := upd_same
    generalize upd H0 d (.lst []) = H3 at *
    generalize upd G d (.lst []) = G3 at *
    have htH3 : Paired (fun (t : Addr) (e : Ent) => H3 t = some (.tup (prow e))) ts es := Paired.mapP ht3 fun _ _ z => g3.s _ _ z
    refine ⟨_, rfl, l, rfl, ⟨_, SqL.of hl3⟩, fun D hD => ?_⟩
    refine L2.lc_it (L2.walk_list (xs := ts.map V.ref)) (fun i H' => Same H3 H' ∧ ∃ us : List Addr, us.length ≤ i ∧ H' D = some (.lst (us.map V.ref)) ∧ Paired (fun (t : Addr) (e : Ent) => G3 t = some (.tup (prow e))) us (dropE (es.take i) n')) ⟨same_new hD _, [], Nat.le_refl _, upd_same, .nil⟩ (fun _ _ _ ⟨s, _⟩ => SqL.of (s _ _ hl3)) ?_ ?_
    · rintro i x H1 H2 hi ⟨s1, us, hul, hL1, hp⟩ ⟨rfl, hx⟩
      obtain ⟨t, e, rfl, hti, hei, hat⟩ := prs_get ht3 hx
      have hi2 : i < es.length := (List.getElem?_eq_some_iff.mp hei).1
      have hdr : dropE (es.take (i + 1)) n' = dropE (es.take i) n' ++ if e.1 = n' then [] else [e] := by
        rw [List.take_add_one, hei]
        unfold dropE
        rw [List.filter_append]
        refine congrArg _ ?_
        show List.filter _ [e] = _
        by_cases h : e.1 = n'
        · rw [List.filter_cons, if_neg (by simp [h]), if_pos h]; rfl
        · rw [List.filter_cons, if_pos (by simp [h]), if_neg h]; rfl
      refine ⟨rfl, _, rfl, t, _, _, _, rfl, rfl, SqT.of (s1 _ _ (g3.s _ _ hat)), at0 _ _, _, rfl, rfl, _, rfl, ?_⟩
      refine ite2 (fun h => ?_) (fun h => ?_)
      · have hne : ¬ e.1 = n' := fun z => decF h (by rw [z])
        refine ⟨_, rfl, _, hL1, small_lt (by rw [List.length_map]; omega), same_upd s1 hD, us ++ [t], by rw [List.length_append]; show _ + 1 ≤ _; omega, by rw [upd_same, List.map_append]; rfl, ?_⟩
        rw [hdr, if_neg hne]
        exact paired_snoc hp hat
      · have he : e.1 = n' := S_inj (by have := decT h; injection this)
        refine ⟨s1, us, by omega, hL1, ?_⟩
        rw [hdr, if_pos he, List.append_nil]
        exact hp
    · rintro H1 ⟨s1, us, hul, hL1, hp⟩
      rw [List.length_map, hlt, List.take_length] at hp
      have gD : G3 D = none := g3.s.free hD
      have g4 := (g3.same s1).reg hL1 (g3.h.free hD) gD
      have k4 := same_new gD (.lst (us.map V.ref))
      refine ⟨by show 2 ≤ sizeLine; decide, fun x hx => fin _ H1 d D g4 (k4 _ _ hd3) (fun es' z => ?_) x hx⟩
      cases z
      exact ⟨us, upd_same, Paired.mapP hp fun _ _ z => k4 _ _ z⟩
  | ren o' n' =>
    obtain ⟨rfl, rfl, rfl, hnr⟩ := hk
    have hst : stepE al room es (.ren o' n') = renameE es o' n' := rfl
    rw [hst] at fin er
    unfold renameE at fin er
    have hl0 := s0 _ _ hlH
    refine ⟨_, rfl, rfl, _, rfl, ?_⟩
    refine ite2 (fun z => absurd (int_eq z) (by decide)) (fun _ => ?_)
    refine ⟨_, rfl, _, rfl, L, _, rfl, .inl (SqL.of hL0), rfl, flat_sgs _, _, rfl, ?_⟩
    show if (!inV (.str (S o')) (sgs (es.map (·.1)))) = true then _ else _
    rw [inV_told]
    refine ite2 (fun h => ?_) (fun h => ?_)
    · have hs : toldE es o' = none := Classical.byContradiction fun z => by rw [told_dec z] at h; cases h
      refine ⟨_, rfl, by show 4 ≤ sizeLine; decide, fun e he => ⟨_, rfl, by show 2 ≤ sizeLine; decide, fun x hx => ?_⟩⟩
      exact er (.name o') (by rw [if_pos hs]) e he x hx
    have hs : toldE es o' ≠ none := fun z => h (by rw [z]; rfl)
    rw [if_neg hs] at fin
    refine ⟨_, rfl, rfl, _, rfl, ?_⟩
    refine ite2 (fun z => absurd (int_eq z) (by decide)) (fun _ => ?_)
    refine ⟨_, rfl, n', rfl, hnr.1, hnr.2, fun H1 s1 => ⟨_, rfl, ?_⟩⟩
    have g1 := g0.same s1
    have hL1 := s1 _ _ hL0
    have hl1 := s1 _ _ hl0
    have er : (nameB n' = false ∨ toldE es n' ≠ none) → ∀ e, H1 e = none → ∀ x, upd H1 e (.lst (dueV (.name n'))) x = none → Q (.ref x) (upd (upd H1 e (.lst (dueV (.name n')))) x (.lst [.ref e, .ref l])) := fun hf e he x hx =>
      fin _ _ e l (g1.add he) (by rw [upd_same, if_pos hf]; rfl) (fun es' z => by rw [if_pos hf] at z; cases z) x hx
    cases hb : nameB n' with
    | false =>
      refine ite2 (fun _ => ?_) (fun z => absurd rfl z)
      refine ite2 (fun _ => ?_) (fun z => absurd rfl z)
      refine ⟨_, rfl, by show 4 ≤ sizeLine; decide, fun e he => ⟨_, rfl, by show 2 ≤ sizeLine; decide, fun x hx => ?_⟩⟩
      exact er (.inl hb) e he x hx
    | true =>
      refine ite2 (fun z => (by cases z)) (fun _ => ?_)
      refine ⟨_, rfl, _, rfl, L, _, rfl, .inl (SqL.of hL1), rfl, flat_sgs _, _, rfl, ?_⟩
      show if inV (.str (S n')) (sgs (es.map (·.1))) = true then _ else _
      rw [inV_told]
      refine ite2 (fun h => ?_) (fun h => ?_)
      · refine ⟨_, rfl, by show 4 ≤ sizeLine; decide, fun e he => ⟨_, rfl, by show 2 ≤ sizeLine; decide, fun x hx => ?_⟩⟩
        exact er (.inr (told_is h)) e he x hx
      have hno : ¬ (nameB n' = false ∨ toldE es n' ≠ none) := fun z => z.elim (fun y => by rw [hb] at y; cases y) (fun y => h (told_dec y))
      rw [if_neg hno] at fin
      refine ⟨Nat.zero_le _, fun d hd => ?_⟩
      have g3 := g1.add (o := .lst []) hd
      have s3 := same_new hd (.lst [])
      have hl3 := s3 _ _ hl1
      have hd3 : upd G d (.lst []) d = some (.lst (resV (.inr (renE es o' n')))) := upd_same
      have htH3 : Paired (fun (t : Addr) (e : Ent) => upd H1 d (.lst []) t = some (.tup (prow e))) ts es := Paired.mapP htH fun _ _ z => s3 _ _ (s1 _ _ (s0 _ _ z))
      generalize upd H1 d (.lst []) = H3 at *
      generalize upd G d (.lst []) = G3 at *
      refine ⟨_, rfl, l, rfl, ⟨_, SqL.of hl3⟩, fun D hD => ?_⟩
      refine L2.lc_it (L2.walk_list (xs := ts.map V.ref)) (NP G3 H3 D (ren1 o' n') es) (NP.init g3.s hD) (fun _ _ _ h => SqL.of (h.h _ _ hl3)) ?_ ?_
      · rintro i y H4 H5 hi h4 ⟨rfl, hy⟩
        obtain ⟨t, e, rfl, hti, hei, hat⟩ := prs_get htH3 hy
        have hat4 := h4.h _ _ hat
        refine ⟨rfl, _, rfl, t, _, _, _, rfl, rfl, SqT.of hat4, at0 _ _, _, rfl, by show 2 ≤ sizeLine; decide, fun m hm => ?_⟩
        have s5 := same_new hm (.lst [.str (S e.1), .str (S n')])
        refine ⟨_, rfl, t, _, _, _, rfl, rfl, SqT.of (s5 _ _ hat4), at0 _ _, _, rfl, rfl, _, rfl, m, _, _, V.str (S (ren1 o' n' e).1), rfl, rfl, SqL.of upd_same, ?_, _, rfl, t, _, _, _, rfl, rfl, SqT.of (s5 _ _ hat4), at1 _ _ _, by show 2 ≤ sizeLine; decide, fun tt htt => ?_⟩
        · unfold ren1
          by_cases he : e.1 = o'
          · rw [if_pos he, he, decide_eq_true rfl]
            rfl
          · rw [if_neg he, decide_eq_false (fun z => he (S_inj (by injection z)))]
            rfl
        exact h4.step hei hlen s5 htt
      · rintro H4 h4
        rw [List.length_map, hlt] at h4
        obtain ⟨G4, k4, p4⟩ := h4.fin
        refine ⟨by show 2 ≤ sizeLine; decide, fun x hx => fin G4 H4 d D (g3.trans k4) (k4.g _ _ hd3) (fun es' z => ?_) x hx⟩
        cases z
        exact p4
end
end W8

set_option Elab.async false
set_option linter.all false
set_option maxRecDepth 100000
set_option maxHeartbeats 4000000
namespace L2N
open PySem PySem.Spec PyProof.Rows L2
/-- o.m(..), what may be let out told by the slots -/
def tMethS (C : Addr) (m : Str) (sp : Sp) (E : St → XK) (ta : TE) (t : TA) : TE := fun σ H Q => ta σ H fun x H1 => ∃ a dx fs, x = .ref a ∧ H1 a = some (.ins C dx fs) ∧ fs.lookup m = none ∧
  t σ H1 fun vs H2 => sp (x :: vs) H2 Q (E σ)
section
variable {X : Cx} {CX : CXT} {k : Nat} {f C : Addr} {fd : FuncData} {ps : List Str} {sp : Sp} {E : St → XK} {x m : Str} {p pos apos : Pos} {e o : Expr} {es : List Expr} {ta : TE} {t : TA}
theorem pe_methS {pl : Sem Bool} (he : PE X o ta) (c : Cls X.K C) (hm : Meth X.K C m f) (F : FnOk X.prog X.w X.K X.mg X.base CX k f fd ps sp) (hr : Room k X.A) (hb : Binds X.K fd ps []) (hx : ∀ σ, PassesAt CX X σ (E σ)) (ha : PA X (e :: es) t)
    (hst : starEach (e :: es) X.env = (false, eval e X.env) :: starEach es X.env := by rfl) (hpl : (backTo pos (starEach es X.env)).any (·.1) = false := by rfl)
    (ht : eval (.Call (.Attribute o m apos) (e :: es) [] pos) X.env = (do
      let ov ← eval o X.env
      standAt apos.atName
      let (f, first) ← holding [ov] (getMethod ov m pl)
      callWith pos f first (backTo pos (starEach (e :: es) X.env)) (backToKw pos (keywordEach [] X.env))) := by rfl) :
    PE X (.Call (.Attribute o m apos) (e :: es) [] pos) (tMethS C m sp E ta t) := by
  refine ⟨fun pins s σ H Q I h => ?_⟩
  refine PySem.W.methodCall_KW (pl := pl) (thn (he.run pins s σ H _ I h) fun u s1 ⟨x, H1, I1, rx, a, dx, fs, ex, ea, l, q⟩ => ?_) ht
  subst ex
  obtain rfl : u = Value.ref a := rx
  refine getmeth_ok I1 ea c hm l ?_
  refine PySem.W.callWith_K (first := [.ref a]) (h₀ := X.base) I.ok.mod.kin hm.kp (thn (ha.run pos pins s1 σ H1 _ I1 q) fun us s2 ⟨vs, H2, I2, r, q2⟩ => ⟨I2.kIn, ?_⟩) hst hpl
  exact run_fnS (us := .ref a :: us) (vs := .ref a :: vs) F hr hb (hx σ) I2 (.cons rfl r) q2
end
end L2N

set_option Elab.async false
set_option linter.all false
set_option maxRecDepth 100000
set_option maxHeartbeats 4000000
namespace W8
open PySem PySem.Spec PyProof.Rows L2 L2E
/-- _law_classes(e) + [e.f], e in slot i -/
def tClf (K : PySem.W.Frag) (c : Nat → Addr) (i : Nat) (a : Addr) (cls : Value) (d : Option Addr) (k : Nat) (f : Str) : TE := tOp rCat (tCallE (spClasses K c) a cls d (tCons (tVar i) tNil)) (tLst (tCons (tXf a cls d (c k) f (tVar i)) tNil))
theorem clf_ok {K : PySem.W.Frag} {c : Nat → Addr} {i : Nat} {a d : Addr} {k : Nat} {f : Str} {v : V} {names : List Str} {σ : L2.St} {H : Hp} {Q : VK} (T : TellC K c k names) (hn : names.length ≤ 100) (hd : H d = some (.xd [(f, v)])) (hs : σ[i]? = some (some (.ref a)))
    (q : Told Q H (names.map V.str ++ [v])) : tClf K c i a (.ref (c k)) (some d) k f σ H Q := by
  obtain ⟨bs, hbs, rfl⟩ := T.is
  refine ⟨_, hs, c k, bs, rfl, rfl, T.exc, hbs, (fun dd e => ⟨_, (Option.some.inj e) ▸ hd⟩), fun l H1 s1 h1 => ?_⟩
  have hd1 := s1 _ _ hd
  refine ⟨_, hs, rfl, rfl, d, _, v, rfl, hd1, ?_, by show 1 ≤ sizeLine; decide, fun l2 hl2 => ?_⟩
  · rw [List.lookup_cons]
    simp
  have s2 := same_new hl2 (.lst [v])
  refine ⟨l, l2, _, _, rfl, rfl, s2 _ _ h1, upd_same, ?_, fun r hr => q r _ (s1.trans (s2.trans (same_new hr _))) upd_same⟩
  rw [List.length_map]
  exact sz (by show _ + 1 ≤ _; omega)
structure DTryT (K : PySem.W.Frag) (mg : Str → Option Value) (c : Nat → Addr) : Prop where
  t8 : TellC K c 8 ["ValueError", "ToolError", "StateError"]
  t11 : TellC K c 11 ["ValueError", "ToolError", "TextError"]
  t12 : TellC K c 12 ["ValueError", "ToolError", "NameFault"]
  t15 : TellC K c 15 ["ValueError", "ToolError", "LimitError"]
  f8 : PySem.W.findIn K (.ref (c 8)) "state" = some none
  f11 : PySem.W.findIn K (.ref (c 11)) "index" = some none
  f12 : PySem.W.findIn K (.ref (c 12)) "name" = some none
  f15 : PySem.W.findIn K (.ref (c 15)) "limit" = some none
  m8 : mg "StateError" = some (.ref (c 8))
  m11 : mg "TextError" = some (.ref (c 11))
  m12 : mg "NameFault" = some (.ref (c 12))
  m15 : mg "LimitError" = some (.ref (c 15))
  e88 : PySem.W.exmOne K (.ref (c 8)) (.ref (c 8)) = some true
  eNN : PySem.W.exmOne K (.ref (c 12)) (.ref (c 12)) = some true
  eTN : PySem.W.exmOne K (.ref (c 11)) (.ref (c 12)) = some false
  eTT : PySem.W.exmOne K (.ref (c 11)) (.ref (c 11)) = some true
  eLN : PySem.W.exmOne K (.ref (c 15)) (.ref (c 12)) = some false
  eLT : PySem.W.exmOne K (.ref (c 15)) (.ref (c 11)) = some false
  eLL : PySem.W.exmOne K (.ref (c 15)) (.ref (c 15)) = some true
abbrev sDone : Stmt := top 70
theorem scDone : FnScope ["journal", "kind", "name", "rest", "e"] ["journal", "kind", "name", "rest"] (defScope sDone) := ⟨rfl, rfl, rfl, by decide +kernel, rfl, by decide +kernel, by decide +kernel⟩
def KindS (k : Int) (n rest : List Nat) : Stp → Prop
  | .note n' t' => k = 0 ∧ n' = n ∧ t' = rest
  | .strike n' => k = 1 ∧ n' = n
  | .ren o' n' => k = 2 ∧ o' = n ∧ n' = rest
def spDone (CJ C CP : Addr) : Sp := fun vs H Q _ => ∃ (F : Hp) (j : Addr) (k : Int) (n rest al : List Nat) (room : Nat) (B : List (List Ent)) (st : List Stp) (m : Nat) (es : List Ent) (s : Stp), vs = [.ref j, .int k, .str (S n), .str (S rest)] ∧ KindS k n rest s ∧ JrnAt F H j CJ C CP al room B st m ∧ Same F H ∧ s.Fit al ∧ m < 1000 ∧ B[m]? = some es ∧
  (∀ f, stepE al room es s = .inl f → Told Q H (dueV f)) ∧ (∀ es', stepE al room es s = .inr es' → ∀ l H', Same F H' → JrnAt F H' j CJ C CP al room (B.take (m + 1) ++ [es']) (st.take m ++ [s]) (m + 1) → H' l = some (.lst [.non]) → Q (.ref l) H')
abbrev sLAt : Stmt := top 71
theorem scLAt : FnScope ["journal", "count", "e"] ["journal", "count"] (defScope sLAt) := ⟨rfl, rfl, rfl, by decide +kernel, rfl, by decide +kernel, by decide +kernel⟩
def spLAt (CJ C CP : Addr) : Sp := fun vs H Q _ => ∃ (F : Hp) (j : Addr) (al : List Nat) (room : Nat) (B : List (List Ent)) (st : List Stp) (n : Nat) (m : Int), vs = [.ref j, .int m] ∧ JrnP F H j CJ C CP al room B st n ∧
  (¬ (0 ≤ m ∧ m ≤ (n : Int)) → Told Q H [.str "ValueError", .str "ToolError", .str "StateError", .int m]) ∧ (0 ≤ m → m ≤ (n : Int) → ∀ es l p H', B[m.toNat]? = some es → Same H H' → BookN H H' p C CP al room es → H' l = some (.lst [.ref p]) → Q (.ref l) H')
abbrev lsD (K : PySem.W.Frag) (c : Nat → Addr) : List (Value × Nat × (Addr → Value → Option Addr → TS)) :=
  [(.ref (c 12), 4, fun a cls d => tRet (tClf K c 4 a cls d 12 "name")), (.ref (c 11), 4, fun a cls d => tRet (tClf K c 4 a cls d 11 "index")), (.ref (c 15), 4, fun a cls d => tRet (tClf K c 4 a cls d 15 "limit"))]
section
variable {P : Program} {w : World} {K : PySem.W.Frag} {mg : Str → Option Value} {base : Heap} {c : Nat → Addr}
theorem ok_done {f CJ C CP : Addr} {fd : FuncData} (F : Fun K "_law_done" "_law_done" sDone f fd) (Y : DTryT K mg c) (TJ : JrT K mg CJ) (ce : CalE P w K mg base c) (mn : MCalX P w K mg base CJ "note" 12 ["self", "name", "text"] (spJNote c CJ C CP)) (ms : MCalX P w K mg base CJ "strike" 12 ["self", "name"] (spJStrike c CJ C CP)) (mr : MCalX P w K mg base CJ "rename" 12 ["self", "old", "new"] (spJRen c CJ C CP)) :
    FnOk P w K mg base CX0 13 f fd ["journal", "kind", "name", "rest"] (spDone CJ C CP) := by
  refine F.ok scDone (fun vs H Q E h => ?_) (fun cdv A outer sh H vs Q E hr h => ?_)
  · obtain ⟨F, j, k, n, rest, al, room, B, st, m, es, s, rfl, _⟩ := h
    rfl
  obtain ⟨F, j, k, n, rest, al, room, B, st, m, es, s, rfl, hk, J, sF, fit, hm, hes, eF, q⟩ := h
  obtain ⟨f1, fd1, F1, m1, b1⟩ := mn.ex
  obtain ⟨f2, fd2, F2, m2, b2⟩ := ms.ex
  obtain ⟨f3, fd3, F3, m3, b3⟩ := mr.ex
  obtain ⟨f4, fd4, F4, g4, k4, b4⟩ := ce.ex
  refine ⟨_, pss_one (L2N.ps_try_manyA (l := lsD K c) rfl rfl scDone.nd L2N.takes_no
    (fun W pn xe tk lv => (pss_cons (ps_if (pt_cmpR op_eq (pv 1) pe_int (nomark _))
        (pss_one (ps_ret (pe_lst (pa_cons (L2N.pe_methS (pv 0) TJ.cl m1 F1 hr b1 (fun σ => L2N.passAt tk σ) (pa_cons (pv 2) (pa_cons (pv 3) pa_nil))) pa_nil))))
        pss_nil)
      (pss_cons (ps_if (pt_cmpR op_eq (pv 1) pe_int (nomark _))
        (pss_one (ps_ret (pe_lst (pa_cons (L2N.pe_methS (pv 0) TJ.cl m2 F2 hr b2 (fun σ => L2N.passAt tk σ) (pa_cons (pv 2) pa_nil)) pa_nil))))
        pss_nil)
      (pss_one (ps_ret (pe_lst (pa_cons (L2N.pe_methS (pv 0) TJ.cl m3 F3 hr b3 (fun σ => L2N.passAt tk σ) (pa_cons (pv 2) (pa_cons (pv 3) pa_nil))) pa_nil)))))))
    (L2N.HdsA.cons (i := 4) ⟨by rfl, by decide, .inl Y.m12⟩ rfl rfl (fun a oe cls d pn hz hd => pss_one (ps_ret (pe_op op_cat (pe_callE F4 ((L2H.roomH_of hr).mono (by decide)) hz hd (by rfl) g4 k4 b4 (pa_cons (pv 4) pa_nil)) (pe_lst (pa_cons (pe_xf Y.t12.xf Y.f12 hz.zc hd (pv 4)) pa_nil)))))
    (L2N.HdsA.cons (i := 4) ⟨by rfl, by decide, .inl Y.m11⟩ rfl rfl (fun a oe cls d pn hz hd => pss_one (ps_ret (pe_op op_cat (pe_callE F4 ((L2H.roomH_of hr).mono (by decide)) hz hd (by rfl) g4 k4 b4 (pa_cons (pv 4) pa_nil)) (pe_lst (pa_cons (pe_xf Y.t11.xf Y.f11 hz.zc hd (pv 4)) pa_nil)))))
    (L2N.HdsA.cons (i := 4) ⟨by rfl, by decide, .inl Y.m15⟩ rfl rfl (fun a oe cls d pn hz hd => pss_one (ps_ret (pe_op op_cat (pe_callE F4 ((L2H.roomH_of hr).mono (by decide)) hz hd (by rfl) g4 k4 b4 (pa_cons (pv 4) pa_nil)) (pe_lst (pa_cons (pe_xf Y.t15.xf Y.f15 hz.zc hd (pv 4)) pa_nil)))))
    L2N.HdsA.nil)))), ?_⟩
  obtain ⟨jx, ml, ul, b, dx, td, pd, g1, g2, mss, us, es0, JJ, hes0⟩ := id J
  have er : ∀ (σ : L2.St) (hσ : σ = [some (.ref j), some (.int k), some (.str (S n)), some (.str (S rest)), none]) (D : Ends), D.rt = Q → ∀ f, stepE al room es s = .inl f → ∀ H1, Same H H1 → ErrO (fun cls d H' => L2N.wManyA K L2N.noW D (lsD K c) cls d σ H') c f H1 := fun σ hσ D hD f hf H1 s1 d H' s' n' hd => by
    subst hσ
    have told := ((eF f hf).mono s1).mono s'
    rw [← hD] at told
    cases f with
    | name n => exact ⟨true, Y.eNN, fun _ a ha => clf_ok Y.t12 (by decide) hd rfl told, fun h => nomatch h⟩
    | text i => exact ⟨false, Y.eTN, (fun h => nomatch h), fun _ => ⟨true, Y.eTT, fun _ a ha => clf_ok Y.t11 (by decide) hd rfl told, fun h => nomatch h⟩⟩
    | lim n => exact ⟨false, Y.eLN, (fun h => nomatch h), fun _ => ⟨false, Y.eLT, (fun h => nomatch h), fun _ => ⟨true, Y.eLL, fun _ a ha => clf_ok Y.t15 (by decide) hd rfl told, fun h => nomatch h⟩⟩⟩
  have good : ∀ es', stepE al room es s = .inr es' → ∀ H', Same F H' → JrnAt F H' j CJ C CP al room (B.take (m + 1) ++ [es']) (st.take m ++ [s]) (m + 1) → ∀ l, H' l = none → Q (.ref l) (upd H' l (.lst [.non])) := fun es' he H' s' J' l hl => q es' he l _ (s'.trans (same_new hl _)) (J'.same (same_new hl _)) upd_same
  cases s with
  | note n' t' =>
    obtain ⟨rfl, rfl, rfl⟩ := hk
    refine ⟨_, rfl, rfl, _, rfl, ?_⟩
    refine ite2 (fun _ => ?_) (fun z => absurd rfl z)
    refine ⟨_, rfl, j, jx, _, rfl, JJ.o, jf_no _ _ _ _ (by decide +kernel), _, rfl, _, rfl, F, j, n', t', rfl, al, room, B, st, m, es, J, sF, fit, hm, hes, fun f hf => ?_, fun es' he H' s' J' => ⟨by show 1 ≤ sizeLine; decide, fun l hl => good es' he H' s' J' l hl⟩⟩
    exact er _ rfl _ rfl f hf H (Same.refl H)
  | strike n' =>
    obtain ⟨rfl, rfl⟩ := hk
    refine ⟨_, rfl, rfl, _, rfl, ?_⟩
    refine ite2 (fun z => absurd (int_eq z) (by decide)) (fun _ => ?_)
    refine ⟨_, rfl, rfl, _, rfl, ?_⟩
    refine ite2 (fun _ => ?_) (fun z => absurd rfl z)
    refine ⟨_, rfl, j, jx, _, rfl, JJ.o, jf_no _ _ _ _ (by decide +kernel), _, rfl, F, j, n', rfl, al, room, B, st, m, es, J, sF, fit, hm, hes, fun f hf => ?_, fun es' he H' s' J' => ⟨by show 1 ≤ sizeLine; decide, fun l hl => good es' he H' s' J' l hl⟩⟩
    exact er _ rfl _ rfl f hf H (Same.refl H)
  | ren o' n' =>
    obtain ⟨rfl, rfl, rfl⟩ := hk
    refine ⟨_, rfl, rfl, _, rfl, ?_⟩
    refine ite2 (fun z => absurd (int_eq z) (by decide)) (fun _ => ?_)
    refine ⟨_, rfl, rfl, _, rfl, ?_⟩
    refine ite2 (fun z => absurd (int_eq z) (by decide)) (fun _ => ?_)
    refine ⟨_, rfl, j, jx, _, rfl, JJ.o, jf_no _ _ _ _ (by decide +kernel), _, rfl, _, rfl, F, j, o', n', rfl, al, room, B, st, m, es, J, sF, fit, hm, hes, fun f hf => ?_, fun es' he H' s' J' => ⟨by show 1 ≤ sizeLine; decide, fun l hl => good es' he H' s' J' l hl⟩⟩
    exact er _ rfl _ rfl f hf H (Same.refl H)
theorem ok_lat {f CJ C CP : Addr} {fd : FuncData} (F : Fun K "_law_at" "_law_at" sLAt f fd) (Y : DTryT K mg c) (TJ : JrT K mg CJ) (ce : CalE P w K mg base c) (ma : MCalX P w K mg base CJ "book_at" 11 ["self", "count"] (spJAt c CJ C CP)) :
    FnOk P w K mg base CX0 12 f fd ["journal", "count"] (spLAt CJ C CP) := by
  refine F.ok scLAt (fun vs H Q E h => ?_) (fun cdv A outer sh H vs Q E hr h => ?_)
  · obtain ⟨F, j, al, room, B, st, n, m, rfl, _⟩ := h
    rfl
  obtain ⟨F, j, al, room, B, st, n, m, rfl, J, eS, q⟩ := h
  obtain ⟨f1, fd1, F1, m1, b1⟩ := ma.ex
  obtain ⟨f4, fd4, F4, g4, k4, b4⟩ := ce.ex
  refine ⟨_, pss_one (L2N.ps_try_manyA (l := [(.ref (c 8), 2, fun a cls d => tRet (tClf K c 2 a cls d 8 "state"))]) rfl rfl scLAt.nd L2N.takes_no
    (fun W pn xe tk lv => (pss_one (ps_ret (pe_lst (pa_cons (L2N.pe_methS (pv 0) TJ.cl m1 F1 hr b1 (fun σ => L2N.passAt tk σ) (pa_cons (pv 1) pa_nil)) pa_nil)))))
    (L2N.HdsA.cons (i := 2) ⟨by rfl, by decide, .inl Y.m8⟩ rfl rfl (fun a oe cls d pn hz hd => pss_one (ps_ret (pe_op op_cat (pe_callE F4 ((L2H.roomH_of hr).mono (by decide)) hz hd (by rfl) g4 k4 b4 (pa_cons (pv 2) pa_nil)) (pe_lst (pa_cons (pe_xf Y.t8.xf Y.f8 hz.zc hd (pv 2)) pa_nil)))))
    L2N.HdsA.nil)), ?_⟩
  obtain ⟨jx, ml, ul, b, dx, td, pd, g1, g2, mss, us, es0, JJ⟩ := id J
  refine ⟨_, rfl, j, jx, _, rfl, JJ.o, jf_no _ _ _ _ (by decide +kernel), _, rfl, F, j, al, room, B, st, n, m, rfl, J, fun hb d H' s' n' hd => ?_, fun h0 h1 es p H' he s' bn => ⟨by show 1 ≤ sizeLine; decide, fun l hl => ?_⟩⟩
  · exact ⟨true, Y.e88, fun _ a ha => clf_ok Y.t8 (by decide) hd rfl ((eS hb).mono s'), fun h => nomatch h⟩
  · have s2 := same_new hl (.lst [.ref p])
    exact q h0 h1 es l p _ he (s'.trans s2) (bn.mono s2) upd_same
end
end W8

set_option Elab.async false
set_option linter.all false
set_option maxRecDepth 100000
set_option maxHeartbeats 4000000
namespace W8
open PySem PySem.Spec PyProof.Rows L2 L2E
abbrev sIs : Stmt := top 72
theorem scIs : FnScope ["book", "letters", "pairs", "room", "lines", "pair"] ["book", "letters", "pairs", "room"] (defScope sIs) := ⟨rfl, rfl, rfl, by decide +kernel, rfl, by decide +kernel, by decide +kernel⟩
def spIs (C CP : Addr) : Sp := fun vs H Q _ => ∃ (p l : Addr) (al : List Nat) (room : Nat) (es : List Ent), vs = [.ref p, .str (S al), .ref l, .int (room : Int)] ∧ BookE H p C CP al room es ∧ Uniq es ∧ Prs H l es ∧ ∀ H', Same H H' → Q (.bl true) H'
/-- the books that were, as lists of pairs -/
def PastAt (H : Hp) (pl : Addr) (Bs : List (List Ent)) : Prop := ∃ ps : List Addr, H pl = some (.lst (ps.map V.ref)) ∧ Paired (fun (p : Addr) (es : List Ent) => Prs H p es) ps Bs
theorem PastAt.mono {H H' : Hp} {pl : Addr} {Bs : List (List Ent)} (h : PastAt H pl Bs) (s : Same H H') : PastAt H' pl Bs := by
  obtain ⟨ps, a, b⟩ := h
  exact ⟨ps, s _ _ a, Paired.mapP b fun _ _ z => z.mono s⟩
theorem PastAt.get {H : Hp} {pl : Addr} {Bs : List (List Ent)} (h : PastAt H pl Bs) {i : Nat} {es : List Ent} (e : Bs[i]? = some es) : ∃ xs p, H pl = some (.lst xs) ∧ xs.length = Bs.length ∧ atI xs (i : Int) = some (.ref p) ∧ Prs H p es := by
  obtain ⟨ps, a, b⟩ := h
  have hl : ps.length = Bs.length := Paired.length b
  have hi : i < ps.length := by rw [hl]; exact (List.getElem?_eq_some_iff.mp e).1
  have hp := List.getElem?_eq_getElem hi
  obtain ⟨es', e2, hq⟩ := L2.paired_get b hp
  rw [e] at e2
  cases e2
  exact ⟨_, ps[i], a, by rw [List.length_map, hl], atI_nat (by rw [List.getElem?_map, hp]; rfl), hq⟩
theorem PastAt.len {H : Hp} {pl : Addr} {Bs : List (List Ent)} (h : PastAt H pl Bs) : ∃ xs, H pl = some (.lst xs) ∧ xs.length = Bs.length := by
  obtain ⟨ps, a, b⟩ := h
  exact ⟨_, a, by rw [List.length_map, Paired.length b]⟩
theorem at_minus {xs : List V} {v : V} {n : Nat} (hl : xs.length = n + 1) (h : atI xs (n : Int) = some v) : atI xs (-1) = some v := by
  unfold atI ixN at *
  rw [if_pos (by omega), if_pos (by omega)] at h
  rw [if_neg (by omega), if_pos (by omega)]
  have e : ((-1 : Int) + (xs.length : Int)).toNat = (n : Int).toNat := by omega
  first
    | (rw [e]; exact h)
    | (have e2 : ((xs.length : Int) + (-1 : Int)).toNat = (n : Int).toNat := by omega
       rw [e2]; exact h)
section
variable {P : Program} {w : World} {K : PySem.W.Frag} {mg : Str → Option Value} {base : Heap}
theorem ok_is {c : Nat → Addr} {f C CP p0 g : Addr} {fd fdg : FuncData} (F : Fun K "_law_is" "_law_is" sIs f fd) (T : BkT K mg C) (S0 : SameT mg) (I : BkI K mg C p0 g) (M : BkM P w K mg base c C CP) (G : FnOk P w K mg base CX0 1 g fdg ["self"] (getSp C "_room")) (bg : Binds K fdg ["self"] []) (mw : MCal P w K mg base C "written" 1 ["self"] (spBWritten C CP))
    (cs : Cal P w K mg base "_law_same" 4 ["actual", "expected"] (spSame K 4)) : FnOk P w K mg base CX0 5 f fd ["book", "letters", "pairs", "room"] (spIs C CP) := by
  refine F.ok scIs (fun vs H Q E h => ?_) (fun cdv A outer s H vs Q E hr h => ?_)
  · obtain ⟨p, l, al, room, es, rfl, _⟩ := h
    rfl
  obtain ⟨p, l, al, room, es, rfl, ⟨dx, td, pd, f1, f2, B⟩, un, ⟨ts, hl, ht⟩, q⟩ := h
  obtain ⟨fi, fdi, Fi, mi, bi⟩ := M.it
  obtain ⟨fl, fdl, Fl, ml, bl⟩ := M.len.ex
  obtain ⟨fw, fdw, Fw, mw, bw⟩ := mw.ex
  refine ⟨_, (pss_cons (ps_if (PW.pt (pw_or (pt_not (pt_val (pe_callB call_isi (by rfl) S0.isinstance (by decide +kernel) (pa_cons (pv 0) (pa_cons (pe_glob (v := .ref C) rfl T.mgC rfl) pa_nil))))) (pw_or1 (pt_not (pt_truth (pcall cs hr (pa_cons (pe_lst (pa_cons (pe_fld (pv 0) rfl) (pa_cons (pe_prop (dvs := []) (E := E0) (pv 0) T.cl I.rm G (hr.mono (by decide)) bg .nil pass0 rfl) (pa_cons (pB1 (call_lenOwn (E := E0) Fl ml bl pass0 (hr.mono (by decide))) T.len (pv 0)) pa_nil)))) (pa_cons (pe_lst (pa_cons (pv 1) (pa_cons (pv 3) (pa_cons (pB1 call_len_seq T.len (pv 2)) pa_nil)))) pa_nil))) (by intro _; rfl))))))
      (pss_one (ps_ret pe_bl))
      pss_nil)
    (pss_cons (ps_set (i := 4) scIs.nd rfl (Or.inl rfl) (pe_join pe_str (pe_lc (te := tOp rAddS (tOp rAddS (tIx K 5 0) (tC (.str "="))) (tIx K 5 1)) (own := [("pair", 5)]) (g := gName 5) (tt := tYes) rfl scIs.nd (pi_list (pv 2)) (blkOk_by (own := [("pair", 5)]) (N := ["book", "letters", "pairs", "room", "lines", "pair"]) (sc := defScope sIs) (by decide +kernel)) (fun _ _ _ _ _ => (pg_name (i := 5) scIs.nd rfl (Or.inl rfl))) (fun _ _ _ _ _ => pts_nil) (fun _ _ _ _ _ => (pe_op op_addS (pe_op op_addS (pixT (pv 5) pe_int) pe_str) (pixT (pv 5) pe_int))))))
    (pss_one (ps_ret (pe_and (pcall cs hr (pa_cons (pe_lock (pT1 (call_listOwnD rfl Fi mi bi Fl ml bl hr) S0.list (pv 0))) (pa_cons (pe_lc (te := tIx K 5 0) (own := [("pair", 5)]) (g := gName 5) (tt := tYes) rfl scIs.nd (pi_list (pv 2)) (blkOk_by (own := [("pair", 5)]) (N := ["book", "letters", "pairs", "room", "lines", "pair"]) (sc := defScope sIs) (by decide +kernel)) (fun _ _ _ _ _ => (pg_name (i := 5) scIs.nd rfl (Or.inl rfl))) (fun _ _ _ _ _ => pts_nil) (fun _ _ _ _ _ => (pixT (pv 5) pe_int))) pa_nil))) (pe_one (pcall cs hr (pa_cons (pe_meth0 (pv 0) T.cl mw Fw (hr.mono (by decide)) bw .nil pass0) (pa_cons (pv 4) pa_nil))))))))), ?_⟩
  have l100 : es.length ≤ 100 := Nat.le_trans B.l B.r
  have hlt : ts.length = es.length := Paired.length ht
  refine ⟨_, rfl, _, _, _, _, _, rfl, .own C, .base (.ins B.o T.cl I.ha I.hn I.htk I.hm), I.kt, _, rfl, ?_⟩
  refine ite2 (fun z => (by cases z)) (fun _ => ?_)
  have npt : p ≠ td := ne_of B.o B.t (fun z => nomatch z)
  refine ⟨_, rfl, p, C, dx, _, _, rfl, B.o, T.cl, T.nL, bk_letters _ _ _ _ _ _, _, rfl, p, dx, _, rfl, B.o, p, dx, _, _, rfl, B.o, bk_room _ _ _ _ _ _, _, rfl, p, dx, _, rfl, B.o, ⟨p, dx, td, pd, f1, f2, al, room, es, rfl, ⟨B.o, .inl B.t⟩, es.length, rfl, sz (by omega), by show 3 ≤ sizeLine; decide, fun x hx => ?_⟩⟩
  have s2 := same_new hx (.lst [.str (S al), .int (room : Int), .int (es.length : Int)])
  have hx2 : upd H x (.lst [.str (S al), .int (room : Int), .int (es.length : Int)]) x = some (.lst [.str (S al), .int (room : Int), .int (es.length : Int)]) := upd_same
  generalize upd H x (.lst [.str (S al), .int (room : Int), .int (es.length : Int)]) = H2 at *
  clear hx
  refine ⟨_, rfl, _, rfl, _, rfl, l, _, rfl, .inl (SqL.of (s2 _ _ hl)), by show 3 ≤ sizeLine; decide, fun y hy => ?_⟩
  rw [List.length_map, hlt]
  have s4 := same_new hy (.lst [.str (S al), .int (room : Int), .int (es.length : Int)])
  have hy4 : upd H2 y (.lst [.str (S al), .int (room : Int), .int (es.length : Int)]) y = some (.lst [.str (S al), .int (room : Int), .int (es.length : Int)]) := upd_same
  generalize upd H2 y (.lst [.str (S al), .int (room : Int), .int (es.length : Int)]) = H4 at *
  refine ⟨.ref x, .ref y, .list [.str (S al), .int (room : Int), .int (es.length : Int)], .list [.str (S al), .int (room : Int), .int (es.length : Int)], rfl, .lst (SqL.of (s4 _ _ hx2)) (.cons (.str _) (.cons (.int _) (.cons (.int _) .nil))), .lst (SqL.of hy4) (.cons (.str _) (.cons (.int _) (.cons (.int _) .nil))), ?_, fun b H5 s5 hb => ?_⟩
  · refine ⟨by show 3 ≤ 100000; decide, fun d hd => ?_⟩
    rcases List.mem_cons.mp hd with rfl | hd
    · trivial
    rcases List.mem_cons.mp hd with rfl | hd
    · trivial
    rw [List.mem_singleton.mp hd]
    trivial
  have hb1 := hb.mpr rfl
  subst hb1
  refine ⟨_, rfl, ?_⟩
  refine ite2 (fun z => (by cases z)) (fun _ => ?_)
  have s05 : Same H H5 := s2.trans (s4.trans s5)
  clear s2 s4 s5 hx2 hy4 hy
  have hl5 := s05 _ _ hl
  have ht5 : Paired (fun (t : Addr) (e : Ent) => H5 t = some (.tup (prow e))) ts es := Paired.mapP ht fun _ _ z => s05 _ _ z
  refine ⟨⟨_, rfl⟩, _, rfl, l, rfl, ⟨_, SqL.of hl5⟩, fun L hL => ?_⟩
  refine L2.lc_it (L2.walk_list (xs := ts.map V.ref)) (fun i H' => Same H5 H' ∧ H' L = some (.lst ((es.take i).map fun e => V.str (lineE e)))) ⟨same_new hL _, upd_same⟩ (fun _ _ _ ⟨s, _⟩ => SqL.of (s _ _ hl5)) ?_ ?_
  · rintro i x H1 H2 hi ⟨s1, hL1⟩ ⟨rfl, hx⟩
    obtain ⟨t, e, rfl, hti, hei, hat⟩ := prs_get ht5 hx
    have hat := s1 _ _ hat
    have hv := B.v e (List.mem_of_getElem? hei)
    have h12 := hv.1.n12
    have h200 := hv.2
    refine ⟨rfl, _, rfl, t, _, _, _, rfl, rfl, SqT.of hat, at0 _ _, _, _, rfl, rfl, ?_, ?_⟩
    · rw [c61, S_len, S_len]; exact sz (by show _ + 1 ≤ _; omega)
    rw [c61, S_app]
    refine ⟨_, rfl, t, _, _, _, rfl, rfl, SqT.of hat, at1 _ _ _, _, _, rfl, rfl, ?_, ?_⟩
    · rw [S_len, S_len, List.length_append]; exact sz (by show _ + 1 + _ ≤ _; omega)
    refine ⟨_, hL1, small_lt (by rw [List.length_map, List.length_take]; omega), same_upd s1 hL, ?_⟩
    rw [upd_same, List.take_add_one, hei, List.map_append, S_app]
    show some (HO.lst (_ ++ [V.str (S ((e.1 ++ [61]) ++ e.2))])) = some (HO.lst (_ ++ [V.str (S (e.1 ++ 61 :: e.2))]))
    rw [List.append_assoc]
    rfl
  rintro H6 ⟨s6, hL6⟩
  rw [List.length_map, hlt, List.take_length] at hL6
  have e9 : (es.map fun e => V.str (lineE e)) = (es.map lineE).map V.str := by rw [List.map_map]; rfl
  rw [e9] at hL6
  have s06 := s05.trans s6
  refine ⟨_, L, es.map lineE, rfl, rfl, .inl (SqL.of hL6), ?_, ?_⟩
  · have h1 := sum_le (xs := (es.map lineE).map (·.length)) (n := 213) fun x hx => by
      obtain ⟨z, hz, rfl⟩ := List.mem_map.mp hx
      obtain ⟨d, hd, rfl⟩ := List.mem_map.mp hz
      exact line_len (B.v d hd).1.n12 (B.v d hd).2
    rw [List.length_map, List.length_map] at h1
    rw [List.length_map]
    show _ + es.length * 1 ≤ _
    omega
  have B6 := B.mono s06
  refine ⟨td, _, B6.t, trivial, fun od => ⟨_, rfl, p, dx, _, td, od, tkv es, rfl, by rw [upd_ne npt]; exact B6.o, bk_texts _ _ _ _ _ _, upd_same, sz (by rw [tkv_len]; omega), fun H' hH' => ?_, fun LL hLL => ⟨?_, ?_⟩⟩⟩
  · exact ⟨p, dx, td, pd, f1, f2, al, room, es, rfl, ⟨hH' _ _ (by rw [upd_ne npt]; exact B6.o), .inr ⟨od, hH' _ _ upd_same⟩⟩, es.length, rfl, sz (by omega), rfl⟩
  · rw [upd_ne (ne_of_none upd_same hLL)]
    exact upd_same
  have s7 : Same H6 (upd (upd (upd H6 td (.frz od (.dK (tkv es)))) LL (.lst ((tkv es).map fun kv => kV kv.1))) td (.dK (tkv es))) := lock_same B6.t (same_new hLL _)
  have hL7 : upd (upd (upd H6 td (.frz od (.dK (tkv es)))) LL (.lst ((tkv es).map fun kv => kV kv.1))) td (.dK (tkv es)) LL = some (.lst (sgs (es.map (·.1)))) := by
    rw [upd_ne (Ne.symm (ne_of_none upd_same hLL)), upd_same]
    unfold tkv sgs
    rw [List.map_map, List.map_map]
    rfl
  generalize upd (upd (upd H6 td (.frz od (.dK (tkv es)))) LL (.lst ((tkv es).map fun kv => kV kv.1))) td (.dK (tkv es)) = H7 at *
  have s07 := s06.trans s7
  clear hLL s6 s7 hL6
  have hl7 := s07 _ _ hl
  refine ⟨_, rfl, l, rfl, ⟨_, SqL.of hl7⟩, fun N hN => ?_⟩
  refine L2.lc_it (L2.walk_list (xs := ts.map V.ref)) (fun i H' => Same H7 H' ∧ H' N = some (.lst (sgs ((es.take i).map (·.1))))) ⟨same_new hN _, upd_same⟩ (fun _ _ _ ⟨s, _⟩ => SqL.of (s _ _ hl7)) ?_ ?_
  · rintro i y H3 H4 hi ⟨s3, hN3⟩ ⟨rfl, hy⟩
    obtain ⟨t, e, rfl, hti, hei, hat⟩ := prs_get ht hy
    refine ⟨rfl, _, rfl, t, _, _, _, rfl, rfl, SqT.of (s3 _ _ (s07 _ _ hat)), at0 _ _, _, hN3, small_lt (by rw [sgs_len, List.length_map, List.length_take]; omega), same_upd s3 hN, ?_⟩
    rw [upd_same, List.take_add_one, hei, List.map_append, sgs_app]
    rfl
  rintro H8 ⟨s8, hN8⟩
  rw [List.length_map, hlt, List.take_length] at hN8
  refine ⟨.ref LL, .ref N, .list ((es.map (·.1)).map fun n => .str (S n)), .list ((es.map (·.1)).map fun n => .str (S n)), rfl, .lst (SqL.of (s8 _ _ hL7)) (dp_sgs _), .lst (SqL.of hN8) (dp_sgs _), ?_, fun b H9 s9 hb => ?_⟩
  · refine ⟨by rw [List.length_map, List.length_map]; omega, fun d hd => ?_⟩
    obtain ⟨n, _, rfl⟩ := List.mem_map.mp hd
    trivial
  have hb1 := hb.mpr rfl
  subst hb1
  refine ⟨_, rfl, ?_⟩
  refine ite2 (fun _ => ?_) (fun z => absurd rfl z)
  have s09 := s07.trans (s8.trans s9)
  have B9 := B.mono s09
  refine ⟨_, rfl, p, dx, _, rfl, B9.o, bk_no _ _ _ _ _ _ (by decide +kernel), p, dx, td, pd, f1, f2, al, room, es, rfl, B9, un, fun H10 s10 => ?_⟩
  refine ⟨_, rfl, _, _, .str (Txt.join "\n" (es.map lineE)), .str (Txt.join "\n" (es.map lineE)), rfl, .str _, .str _, trivial, fun b H11 s11 hb => ?_⟩
  have hb1 := hb.mpr rfl
  subst hb1
  exact q _ (s09.trans (s10.trans s11))
abbrev sStands : Stmt := top 73
theorem scStands : FnScope ["journal", "letters", "past", "room"] ["journal", "letters", "past", "room"] (defScope sStands) := ⟨rfl, rfl, rfl, by decide +kernel, rfl, by decide +kernel, by decide +kernel⟩
def spStands (CJ C CP : Addr) : Sp := fun vs H Q _ => ∃ (F : Hp) (j pl : Addr) (al : List Nat) (room : Nat) (B : List (List Ent)) (st : List Stp) (n : Nat), vs = [.ref j, .str (S al), .ref pl, .int (room : Int)] ∧ JrnAt F H j CJ C CP al room B st n ∧ PastAt H pl (B.take (n + 1)) ∧ ∀ H', Same H H' → Q (.bl true) H'
/-- what walks over a journal need -/
structure JrC (P : Program) (w : World) (K : PySem.W.Frag) (mg : Str → Option Value) (base : Heap) (CJ C CP : Addr) : Prop where
  T : JrT K mg CJ
  len : MCal P w K mg base CJ "__len__" 1 ["self"] (spJLen CJ C CP)
  book : MCal P w K mg base CJ "book" 12 ["self"] (spJBook CJ C CP)
  undo : MCal P w K mg base CJ "undo" 13 ["self"] (spJUndo CJ C CP)
  redo : MCal P w K mg base CJ "redo" 11 ["self"] (spJRedo CJ C CP)
theorem ok_stands {f CJ C CP : Addr} {fd : FuncData} (F : Fun K "_law_stands" "_law_stands" sStands f fd) (tl : mg "len" = none) (J : JrC P w K mg base CJ C CP) (ci : Cal P w K mg base "_law_is" 5 ["book", "letters", "pairs", "room"] (spIs C CP)) (cs : Cal P w K mg base "_law_same" 4 ["actual", "expected"] (spSame K 4)) :
    FnOk P w K mg base CX0 13 f fd ["journal", "letters", "past", "room"] (spStands CJ C CP) := by
  refine F.ok scStands (fun vs H Q E h => ?_) (fun cdv A outer s H vs Q E hr h => ?_)
  · obtain ⟨F, j, pl, al, room, B, st, n, rfl, _⟩ := h
    rfl
  obtain ⟨F, j, pl, al, room, B, st, n, rfl, JA, hP, q⟩ := h
  obtain ⟨fl, fdl, Fl, ml, bl⟩ := J.len.ex
  obtain ⟨fb, fdb, Fb, mb, bb⟩ := J.book.ex
  refine ⟨_, (pss_one (ps_ret (pe_and (pcall cs hr (pa_cons (pB1 (call_lenOwn (E := E0) Fl ml bl pass0 (hr.mono (by decide))) tl (pv 0)) (pa_cons (pe_op op_sub (pB1 call_len_seq tl (pv 2)) pe_int) pa_nil))) (pe_one (pcall ci hr (pa_cons (pe_meth0 (pv 0) J.T.cl mb Fb hr bb .nil pass0) (pa_cons (pv 1) (pa_cons (pixL (pv 2) (pe_un un_neg pe_int)) (pa_cons (pv 3) pa_nil))))))))), ?_⟩
  obtain ⟨jx, mll, ul, b, dx, td, pd, f1, f2, ms, us, es, JJ, hes⟩ := id JA
  have hlB := JJ.h.len
  have hn := JJ.n
  have hz := JJ.z
  have htl : (B.take (n + 1)).length = n + 1 := by rw [List.length_take]; omega
  obtain ⟨xs, hxs, hxl⟩ := hP.len
  rw [htl] at hxl
  refine ⟨_, rfl, j, jx, _, rfl, JJ.o, F, j, al, room, B, st, n, rfl, JA.part, ⟨n, rfl, sz (by omega), _, rfl, pl, _, rfl, .inl (SqL.of hxs), _, _, rfl, rfl, ?_⟩⟩
  rw [hxl]
  refine ⟨_, _, .int (n : Int), .int (((n + 1 : Nat) : Int) - 1), rfl, .int _, .int _, trivial, fun b H1 s1 hb => ?_⟩
  have hb1 := hb.mpr (by rw [show ((n + 1 : Nat) : Int) - 1 = (n : Int) by omega])
  subst hb1
  refine ⟨_, rfl, ?_⟩
  refine ite2 (fun _ => ?_) (fun z => absurd rfl z)
  have J1 := JA.same s1
  refine ⟨_, rfl, j, jx, _, rfl, s1 _ _ JJ.o, jf_no _ _ _ _ (by decide +kernel), F, j, al, room, B, st, n, rfl, J1.part, fun es' p H2 he s2 bn => ?_⟩
  rw [hes] at he
  cases he
  have P2 := hP.mono (s1.trans s2)
  obtain ⟨xs2, p2, h1, h2, h3, h4⟩ := P2.get (i := n) (es := es) (by rw [List.getElem?_take_of_lt (by omega)]; exact hes)
  rw [htl] at h2
  obtain ⟨dx5, td5, pd5, f15, f25, B5, n5, n6, n7⟩ := bn
  refine ⟨_, rfl, _, rfl, _, rfl, pl, _, _, _, rfl, rfl, SqL.of h1, at_minus h2 h3, _, rfl, p, p2, al, room, es, rfl, ⟨dx5, td5, pd5, f15, f25, B5⟩, (JJ.h.ok hes).u, h4, fun H3 s3 => q H3 (s1.trans (s2.trans s3))⟩
end
end W8

set_option Elab.async false
set_option linter.all false
set_option maxRecDepth 100000
set_option maxHeartbeats 4000000
namespace W8
open PySem PySem.Spec PyProof.Rows L2 L2E
theorem drop_first {e : Ent} {es : List Ent} (h : Uniq (e :: es)) : dropE (e :: es) e.1 = es := by
  unfold Uniq at h
  rw [List.map_cons, List.nodup_cons] at h
  unfold dropE
  rw [List.filter_cons, if_neg (by simp)]
  refine List.filter_eq_self.mpr fun d hd => decide_eq_true fun z => h.1 ?_
  rw [← z]
  exact List.mem_map.mpr ⟨d, hd, rfl⟩
theorem uniq_tail {e : Ent} {es : List Ent} (h : Uniq (e :: es)) : Uniq es := by
  unfold Uniq at *
  rw [List.map_cons, List.nodup_cons] at h
  exact h.2
theorem uniq_drop {es : List Ent} (h : Uniq es) (i : Nat) : Uniq (es.drop i) := List.Nodup.sublist ((List.drop_sublist i es).map _) h
abbrev sEar : Stmt := top 74
theorem scEar : FnScope ["journal", "letters", "past", "room", "count", "made", "book", "name", "pair"] ["journal", "letters", "past", "room"] (defScope sEar) := ⟨rfl, rfl, rfl, by decide +kernel, rfl, by decide +kernel, by decide +kernel⟩
/-- what a walk over a book's patterns needs -/
structure EarC (P : Program) (w : World) (K : PySem.W.Frag) (mg : Str → Option Value) (base : Heap) (c : Nat → Addr) (C CP : Addr) : Prop where
  T : BkT K mg C
  M : BkM P w K mg base c C CP
  get : ∃ f fd, FnOk P w K mg base CX0 4 f fd ["self", "name"] (spBGet C CP) ∧ Meth K C "__getitem__" f ∧ PySem.W.fnIn K f = true ∧ Binds K fd ["self", "name"] []
  eq : MCal P w K mg base CP "__eq__" 3 ["self", "other"] (L2.spEq (EqP CP))
  drop : MCalX P w K mg base C "drop" 3 ["self", "name"] (spBDrop c C CP)
  read : CalX P w K mg base "read_pattern" 7 ["text", "letters"] (spRead c CP)
theorem head_told {es : List Ent} {n t : List Nat} (h : toldE es n = some t) : ((es.filter fun e => decide (e.1 = n)).map (·.2))[0]? = some t := by
  have h1 : (es.filter fun e => decide (e.1 = n)).head? = es.find? fun e => decide (e.1 = n) := List.head?_filter
  unfold toldE at h
  rw [← h1] at h
  cases hh : es.filter fun e => decide (e.1 = n) with
  | nil => rw [hh] at h; cases h
  | cons a b => rw [hh] at h; exact h
section
variable {P : Program} {w : World} {K : PySem.W.Frag} {mg : Str → Option Value} {base : Heap} {c : Nat → Addr}
theorem ok_ear {f CJ C CP : Addr} {fd : FuncData} (F : Fun K "_law_earlier_books" "_law_earlier_books" sEar f fd) (S0 : SameT mg) (J : JrC P w K mg base CJ C CP) (Y : EarC P w K mg base c C CP) (ca : Cal P w K mg base "_law_at" 12 ["journal", "count"] (spLAt CJ C CP)) (ci : Cal P w K mg base "_law_is" 5 ["book", "letters", "pairs", "room"] (spIs C CP)) (cs : Cal P w K mg base "_law_same" 4 ["actual", "expected"] (spSame K 4)) (cst : Cal P w K mg base "_law_stands" 13 ["journal", "letters", "past", "room"] (spStands CJ C CP)) :
    FnOk P w K mg base CX0 14 f fd ["journal", "letters", "past", "room"] (spStands CJ C CP) := by
  refine F.ok scEar (fun vs H Q E h => ?_) (fun cdv A outer s H vs Q E hr h => ?_)
  · obtain ⟨F, j, pl, al, room, B, st, n, rfl, _⟩ := h
    rfl
  obtain ⟨F, j, pl, al, room, B, st, n, rfl, JA, hP, q⟩ := h
  obtain ⟨fb, fdb, Fb, mb, bb⟩ := J.book.ex
  obtain ⟨fi, fdi, Fi, mi, bi⟩ := Y.M.it
  obtain ⟨fl, fdl, Fl, ml, bl⟩ := Y.M.len.ex
  obtain ⟨fg, fdg, Fg, mgt, fig, bg⟩ := Y.get
  obtain ⟨fe, fde, Fe, me, be⟩ := Y.eq.ex
  obtain ⟨fd', fdd, Fd, md, bd⟩ := Y.drop.ex
  refine ⟨_, (C8.pss_cut (ps_for PassesOwn.never rfl (pi_range1 (by rfl) S0.range (pa_cons (pB1 call_len_seq S0.len (pv 2)) pa_nil)) (pg_name (i := 4) scEar.nd rfl (Or.inl rfl))
      (pss_cons (ps_set (i := 5) scEar.nd rfl (Or.inl rfl) (pcall ca hr (pa_cons (pv 0) (pa_cons (pv 4) pa_nil))))
      (pss_one (ps_if (PW.pt (pw_or (pt_cmpR op_ne (pB1 call_len_seq S0.len (pv 5)) pe_int (nomark _)) (pw_or1 (pt_not (pt_truth (pcall ci hr (pa_cons (pixL (pv 5) pe_int) (pa_cons (pv 1) (pa_cons (pixL (pv 2) (pv 4)) (pa_cons (pv 3) pa_nil))))) (by intro _; rfl))))))
        (pss_one (ps_ret pe_bl))
        pss_nil))))
    (C8.pss_cut (ps_for PassesOwn.never rfl (pi_list (pe_lst (pa_cons (pe_un un_neg pe_int) (pa_cons (pB1 call_len_seq S0.len (pv 2)) pa_nil)))) (pg_name (i := 4) scEar.nd rfl (Or.inl rfl))
      (pss_one (ps_if (pt_not (pt_truth (pcall cs hr (pa_cons (pcall ca hr (pa_cons (pv 0) (pa_cons (pv 4) pa_nil))) (pa_cons (pe_lst (pa_cons pe_str (pa_cons pe_str (pa_cons pe_str (pa_cons (pv 4) pa_nil))))) pa_nil))) (by intro _; rfl)))
        (pss_one (ps_ret pe_bl))
        pss_nil)))
    (pss_cons (ps_set (i := 6) scEar.nd rfl (Or.inl rfl) (pe_meth0 (pv 0) J.T.cl mb Fb (hr.mono (by decide)) bb .nil pass0))
    (C8.pss_cut (ps_for PassesOwn.never rfl (pi_list (pe_lock (pT1 (call_listOwnD rfl Fi mi bi Fl ml bl (hr.mono (by decide))) S0.list (pv 6)))) (pg_name (i := 7) scEar.nd rfl (Or.inr rfl))
      (pss_cons (ps_if (pt_not (pt_truth (pcall cs hr (pa_cons (pe_cmpR (op_eqG (rcG_ins (E := E0) Fe me.at_ me.fn be pass0) (hr.mono (by decide))) (pe_ixO (E := E0) Fg mgt fig bg pass0 (hr.mono (by decide)) (pv 6) (pv 7)) (pcallN Y.read hr (pa_cons (pixL (pe_lc (te := tIx K 8 1) (tt := tTest (tOp rEq (tIx K 8 0) (tVar 7))) (own := [("pair", 8)]) (g := gName 8) rfl scEar.nd (pi_list (pixL (pv 2) (pe_un un_neg pe_int))) (blkOk_by (own := [("pair", 8)]) (N := ["journal", "letters", "past", "room", "count", "made", "book", "name", "pair"]) (sc := defScope sEar) (by decide +kernel)) (fun _ _ _ _ _ => (pg_name (i := 8) scEar.nd rfl (Or.inl rfl))) (fun _ _ _ _ _ => (pts_one (pt_cmpR op_eq (pixT (pv 8) pe_int) (pv 7) (nomark _)))) (fun _ _ _ _ _ => (pixT (pv 8) pe_int))) pe_int) (pa_cons (pv 1) pa_nil))) (nomark _)) (pa_cons pe_bl pa_nil))) (by intro _; rfl)))
        (pss_one (ps_ret pe_bl))
        pss_nil)
      (pss_one (ps_expr (pe_meth (E := EN) (pv 6) Y.T.cl md Fd (hr.mono (by decide)) bd .nil passN (pa_cons (pv 7) pa_nil))))))
    (pss_one (ps_ret (pcall cst hr (pa_cons (pv 0) (pa_cons (pv 1) (pa_cons (pv 2) (pa_cons (pv 3) pa_nil))))))))))), ?_⟩
  obtain ⟨jx, mll, ul, b, dx, td, pd, f1, f2, ms, us, es, JJ, hes⟩ := id JA
  have hlB := JJ.h.len
  have hn := JJ.n
  have hz := JJ.z
  have htl : (B.take (n + 1)).length = n + 1 := by rw [List.length_take]; omega
  obtain ⟨xs, hxs, hxl⟩ := hP.len
  rw [htl] at hxl
  -- each earlier book
  refine ⟨fun σ' H' => ∃ x4 x5, σ' = [some (.ref j), some (.str (S al)), some (.ref pl), some (.int (room : Int)), x4, x5, none, none, none] ∧ Same H H', ?_, ?_⟩
  · refine ⟨_, rfl, pl, _, rfl, .inl (SqL.of hxs), _, rfl, by omega, by omega, ?_⟩
    rw [hxl]
    refine for_range (lo := 0) (n := n + 1) (fun i σ' H' => ∃ x4 x5, σ' = [some (.ref j), some (.str (S al)), some (.ref pl), some (.int (room : Int)), x4, x5, none, none, none] ∧ Same H H') ⟨none, none, rfl, Same.refl H⟩ ?_ (fun σ H' h => h)
    rintro i σ H1 hi ⟨x4, x5, rfl, s1⟩
    have J1 := JA.same s1
    obtain ⟨e, he⟩ := JJ.h.at_ (n := i) (by omega)
    refine ⟨_, rfl, _, rfl, F, j, al, room, B, st, n, _, rfl, J1.part, fun z => absurd ⟨by omega, by omega⟩ z, fun _ _ e' l p H2 he' s2 bn hl2 => ?_⟩
    rw [show (0 + (i : Int)).toNat = i by omega, he] at he'
    cases he'
    obtain ⟨xs2, p2, h1, h2, h3, h4⟩ := (hP.mono (s1.trans s2)).get (i := i) (es := e) (by rw [List.getElem?_take_of_lt (by omega)]; exact he)
    obtain ⟨dx5, td5, pd5, f15, f25, B5, n5, n6, n7⟩ := bn
    refine ⟨_, rfl, l, _, rfl, .inl (SqL.of hl2), rfl, _, rfl, ?_⟩
    refine ite2 (fun z => (by cases z)) (fun _ => ?_)
    refine ⟨_, rfl, l, _, _, _, rfl, rfl, SqL.of hl2, rfl, _, rfl, _, rfl, _, rfl, pl, _, _, _, rfl, rfl, SqL.of h1, by rw [show (0 : Int) + (i : Int) = (i : Int) by omega]; exact h3, _, rfl, p, p2, al, room, e, rfl, ⟨dx5, td5, pd5, f15, f25, B5⟩, (JJ.h.ok he).u, h4, fun H3 s3 => ⟨_, rfl, ?_⟩⟩
    refine ite2 (fun z => (by cases z)) (fun _ => ?_)
    exact ⟨_, _, rfl, s1.trans (s2.trans s3)⟩
  rintro σ' H1 ⟨x4, x5, rfl, s1⟩
  -- -1, and one more
  refine ⟨fun σ' H' => ∃ x4, σ' = [some (.ref j), some (.str (S al)), some (.ref pl), some (.int (room : Int)), x4, x5, none, none, none] ∧ Same H H', ?_, ?_⟩
  · refine ⟨_, rfl, _, rfl, pl, _, rfl, .inl (SqL.of (s1 _ _ hxs)), by show 2 ≤ sizeLine; decide, fun L hL => ?_⟩
    rw [hxl]
    refine ⟨L, rfl, ⟨_, SqL.of upd_same⟩, ?_⟩
    have s2 := same_new hL (.lst [.int (-1), .int ((n + 1 : Nat) : Int)])
    have hL2 : upd H1 L (.lst [.int (-1), .int ((n + 1 : Nat) : Int)]) L = some (.lst [.int (-1), .int ((n + 1 : Nat) : Int)]) := upd_same
    refine L2.for_it (L2.walk_list (xs := [.int (-1), .int ((n + 1 : Nat) : Int)])) (fun i σ' H' => ∃ x4, σ' = [some (.ref j), some (.str (S al)), some (.ref pl), some (.int (room : Int)), x4, x5, none, none, none] ∧ Same (upd H1 L (.lst [.int (-1), .int ((n + 1 : Nat) : Int)])) H') ⟨x4, rfl, Same.refl _⟩ (fun _ _ _ _ ⟨_, _, s⟩ => SqL.of (s _ _ hL2)) ?_ ?_
    · rintro i x σ H3 H4 hi ⟨x4, rfl, s3⟩ ⟨rfl, hx⟩
      have hv : ∃ m : Int, x = .int m ∧ ¬ (0 ≤ m ∧ m ≤ (n : Int)) := by
        rcases i with _ | _ | i
        · cases hx
          exact ⟨_, rfl, by omega⟩
        · cases hx
          exact ⟨_, rfl, by omega⟩
        · cases hx
      obtain ⟨m, rfl, hm⟩ := hv
      have J3 := JA.same (s1.trans (s2.trans s3))
      refine ⟨_, rfl, _, rfl, F, j, al, room, B, st, n, m, rfl, J3.part, fun _ l H5 s5 hl5 => ?_, fun h0 h1 => absurd ⟨h0, h1⟩ hm⟩
      refine ⟨_, rfl, by show 4 ≤ sizeLine; decide, fun y hy => ?_⟩
      have s6 := same_new hy (.lst [.str "ValueError", .str "ToolError", .str "StateError", .int m])
      refine ⟨.ref l, .ref y, .list [.str "ValueError", .str "ToolError", .str "StateError", .int m], .list [.str "ValueError", .str "ToolError", .str "StateError", .int m], rfl, .lst (SqL.of (s6 _ _ hl5)) (.cons (.str _) (.cons (.str _) (.cons (.str _) (.cons (.int _) .nil)))), .lst (SqL.of upd_same) (.cons (.str _) (.cons (.str _) (.cons (.str _) (.cons (.int _) .nil)))), ?_, fun b H7 s7 hb => ?_⟩
      · refine ⟨by show 4 ≤ 100000; decide, fun d hd => ?_⟩
        rcases List.mem_cons.mp hd with rfl | hd
        · trivial
        rcases List.mem_cons.mp hd with rfl | hd
        · trivial
        rcases List.mem_cons.mp hd with rfl | hd
        · trivial
        rw [List.mem_singleton.mp hd]
        trivial
      have hb1 := hb.mpr rfl
      subst hb1
      refine ⟨_, rfl, ?_⟩
      refine ite2 (fun z => (by cases z)) (fun _ => ?_)
      exact ⟨_, rfl, s3.trans (s5.trans (s6.trans s7))⟩
    · rintro σ H3 ⟨x4, rfl, s3⟩
      exact ⟨x4, rfl, s1.trans (s2.trans s3)⟩
  clear s1
  rintro σ' H1 ⟨x4, rfl, s1⟩
  -- the patterns
  have J1 := JA.same s1
  refine ⟨_, rfl, j, jx, _, rfl, s1 _ _ JJ.o, jf_no _ _ _ _ (by decide +kernel), F, j, al, room, B, st, n, rfl, J1.part, fun es' p H2 he s2 bn => ?_⟩
  rw [hes] at he
  cases he
  have s02 := s1.trans s2
  have bo := JJ.h.ok hes
  obtain ⟨dx5, td5, pd5, f15, f25, B5, n5, n6, n7⟩ := bn
  have n5 := s1.free n5
  have n6 := s1.free n6
  have n7 := s1.free n7
  refine ⟨fun σ' H' => ∃ x7, σ' = [some (.ref j), some (.str (S al)), some (.ref pl), some (.int (room : Int)), x4, x5, some (.ref p), x7, none] ∧ Same H H', ?_, ?_⟩
  · have npt : p ≠ td5 := ne_of B5.o B5.t (fun z => nomatch z)
    have l100 : es.length ≤ 100 := Nat.le_trans B5.l B5.r
    refine ⟨td5, _, B5.t, trivial, fun od => ⟨_, rfl, p, dx5, _, td5, od, tkv es, rfl, by rw [upd_ne npt]; exact B5.o, bk_texts _ _ _ _ _ _, upd_same, sz (by rw [tkv_len]; omega), fun H' hH' => ?_, fun LL hLL => ⟨?_, ?_⟩⟩⟩
    · exact ⟨p, dx5, td5, pd5, f15, f25, al, room, es, rfl, ⟨hH' _ _ (by rw [upd_ne npt]; exact B5.o), .inr ⟨od, hH' _ _ upd_same⟩⟩, es.length, rfl, sz (by omega), rfl⟩
    · rw [upd_ne (ne_of_none upd_same hLL)]
      exact upd_same
    have s7 : Same H2 (upd (upd (upd H2 td5 (.frz od (.dK (tkv es)))) LL (.lst ((tkv es).map fun kv => kV kv.1))) td5 (.dK (tkv es))) := lock_same B5.t (same_new hLL _)
    have hL7 : upd (upd (upd H2 td5 (.frz od (.dK (tkv es)))) LL (.lst ((tkv es).map fun kv => kV kv.1))) td5 (.dK (tkv es)) LL = some (.lst (sgs (es.map (·.1)))) := by
      rw [upd_ne (Ne.symm (ne_of_none upd_same hLL)), upd_same]
      unfold tkv sgs
      rw [List.map_map, List.map_map]
      rfl
    generalize upd (upd (upd H2 td5 (.frz od (.dK (tkv es)))) LL (.lst ((tkv es).map fun kv => kV kv.1))) td5 (.dK (tkv es)) = H7 at *
    clear hLL
    refine ⟨LL, rfl, ⟨_, SqL.of hL7⟩, ?_⟩
    refine L2.for_it (L2.walk_list (xs := sgs (es.map (·.1)))) (fun i σ' H' => ∃ x7, σ' = [some (.ref j), some (.str (S al)), some (.ref pl), some (.int (room : Int)), x4, x5, some (.ref p), x7, none] ∧ Same H H' ∧ H' LL = some (.lst (sgs (es.map (·.1)))) ∧ BookAt H' p dx5 td5 pd5 f15 f25 C CP al room (es.drop i)) ⟨none, rfl, s02.trans s7, hL7, B5.mono s7⟩ (fun _ _ _ _ ⟨_, _, _, h, _⟩ => SqL.of h) ?_ ?_
    · rintro i x σ H8 H9 hi ⟨x7, rfl, s8, hL8, B8⟩ ⟨rfl, hx⟩
      unfold sgs at hx
      rw [List.getElem?_map, List.getElem?_map] at hx
      cases hei : es[i]? with
      | none => rw [hei] at hx; cases hx
      | some e =>
        rw [hei] at hx
        cases hx
        have hdr : es.drop i = e :: es.drop (i + 1) := by
          obtain ⟨g1, g2⟩ := List.getElem?_eq_some_iff.mp hei
          rw [← g2, ← List.drop_eq_getElem_cons g1]
        have hte : toldE (es.drop i) e.1 = some e.2 := by rw [hdr, told_cons, if_pos rfl]
        have hte0 : toldE es e.1 = some e.2 := told_get bo.u hei
        obtain ⟨hok, rows, hrow⟩ := bo.v e (List.mem_of_getElem? hei)
        have h200 := readP_len hrow
        obtain ⟨_, _, hrok⟩ := readP_good B8.A hrow
        refine ⟨_, rfl, _, rfl, p, dx5, _, rfl, B8.o, p, dx5, td5, pd5, f15, f25, al, room, _, e.1, e.2, rfl, B8, hte, fun q1 rows1 H10 hr1 s10 P1 => ?_⟩
        rw [hrow] at hr1
        cases hr1
        have s010 := s8.trans s10
        obtain ⟨xs2, p2, h1, h2, h3, ⟨ts, h4, h5⟩⟩ := (hP.mono s010).get (i := n) (es := es) (by rw [List.getElem?_take_of_lt (by omega)]; exact hes)
        rw [htl] at h2
        have hlt : ts.length = es.length := Paired.length h5
        refine ⟨_, rfl, _, rfl, pl, _, _, _, rfl, rfl, SqL.of h1, at_minus h2 h3, p2, rfl, ⟨_, SqL.of h4⟩, fun D hD => ?_⟩
        refine L2.lc_it (L2.walk_list (xs := ts.map V.ref)) (fun k H' => Same H10 H' ∧ H' D = some (.lst (sgs (((es.take k).filter fun d => decide (d.1 = e.1)).map (·.2))))) ⟨same_new hD _, upd_same⟩ (fun _ _ _ ⟨s, _⟩ => SqL.of (s _ _ h4)) ?_ ?_
        · rintro k y H11 H12 hk ⟨s11, hD11⟩ ⟨rfl, hy⟩
          obtain ⟨t, d, rfl, hti, hdk, hat⟩ := prs_get h5 hy
          have hk2 : k < es.length := (List.getElem?_eq_some_iff.mp hdk).1
          have hat := s11 _ _ hat
          have hfl : ((es.take (k + 1)).filter fun d => decide (d.1 = e.1)).map (·.2) = ((es.take k).filter fun d => decide (d.1 = e.1)).map (·.2) ++ if d.1 = e.1 then [d.2] else [] := by
            rw [List.take_add_one, hdk, List.filter_append, List.map_append]
            show _ ++ List.map _ (List.filter _ [d]) = _
            rw [List.filter_cons]
            by_cases hh : d.1 = e.1
            · rw [if_pos (by simp [hh]), if_pos hh]; rfl
            · rw [if_neg (by simp [hh]), if_neg hh]; rfl
          refine ⟨rfl, _, rfl, t, _, _, _, rfl, rfl, SqT.of hat, at0 _ _, _, rfl, rfl, _, rfl, ?_⟩
          refine ite2 (fun h => ?_) (fun h => ?_)
          · have h9 : V.str (S d.1) = V.str (S e.1) := of_decide_eq_true h
            have hde : d.1 = e.1 := S_inj (by injection h9)
            refine ⟨_, rfl, t, _, _, _, rfl, rfl, SqT.of hat, at1 _ _ _, _, hD11, small_lt ?_, same_upd s11 hD, ?_⟩
            · rw [sgs_len, List.length_map]
              have h8 := List.length_filter_le (fun d : Ent => decide (d.1 = e.1)) (es.take k)
              rw [List.length_take] at h8
              omega
            · rw [upd_same, hfl, if_pos hde, sgs_app]
              rfl
          · have hde : ¬ d.1 = e.1 := fun z => h (decide_eq_true (show V.str (S d.1) = V.str (S e.1) by rw [z]))
            refine ⟨s11, ?_⟩
            rw [hD11, hfl, if_neg hde, List.append_nil]
        · rintro H11 ⟨s11, hD11⟩
          rw [List.length_map, hlt, List.take_length] at hD11
          have hat : atI (sgs ((es.filter fun d => decide (d.1 = e.1)).map (·.2))) 0 = some (.str (S e.2)) := by
            have := head_told hte0
            refine atI_nat (j := 0) ?_
            unfold sgs
            rw [List.getElem?_map, this]
            rfl
          refine ⟨D, _, _, _, rfl, rfl, SqL.of hD11, hat, _, rfl, e.2, al, _, rfl, B8.A, by omega, hrow, fun rows2 hr2 q2 H12 s12 nq2 P2 => ?_, (fun i h => nomatch h), (fun h => nomatch h)⟩
          cases hr2
          have P1' := (P1.mono s11).mono s12
          obtain ⟨d1, r1, t1, a1, a2, a3⟩ := id P1'
          obtain ⟨d2, r2, t2, b1, b2, b3⟩ := id P2
          refine ⟨⟨q1, q2, d1, d2, _, _, rfl, rfl, a1, b1, al, rows, P1', P2, hrok⟩, fun H13 s13 => ?_⟩
          refine ⟨.bl true, .bl true, .bool true, .bool true, rfl, .bl _, .bl _, trivial, fun b H14 s14 hb => ?_⟩
          have hb1 := hb.mpr rfl
          subst hb1
          refine ⟨_, rfl, ?_⟩
          refine ite2 (fun z => (by cases z)) (fun _ => ?_)
          have s814 : Same H9 H14 := s10.trans (s11.trans (s12.trans (Same.trans s13 s14)))
          have B14 := B8.mono s814
          refine ⟨_, rfl, p, dx5, _, rfl, B14.o, bk_no _ _ _ _ _ _ (by decide +kernel), _, rfl, p, dx5, td5, pd5, f15, f25, al, room, _, e.1, rfl, B14, fun z => ?_, fun _ H15 k15 B15 => ⟨_, rfl, k15.same (s8.trans s814) n6 n7, ?_, ?_⟩⟩
          · rw [hte] at z
            cases z
          · exact k15 _ _ (ne_of (s814 _ _ hL8) B14.t (fun z => nomatch z)) (by obtain ⟨kps, q1, q2⟩ := B14.q; exact ne_of (s814 _ _ hL8) q1 (fun z => nomatch z)) (s814 _ _ hL8)
          · have := uniq_drop bo.u i
            rw [hdr] at this B15
            rw [drop_first this] at B15
            exact B15
    · rintro σ H8 ⟨x7, rfl, s8, _, _⟩
      exact ⟨x7, rfl, s8⟩
  rintro σ' H3 ⟨x7, rfl, s3⟩
  exact ⟨_, rfl, _, rfl, _, rfl, _, rfl, F, j, pl, al, room, B, st, n, rfl, JA.same s3, hP.mono s3, fun H4 s4 => q H4 (s3.trans s4)⟩
abbrev sBack : Stmt := top 75
theorem scBack : FnScope ["journal", "letters", "past", "room", "count"] ["journal", "letters", "past", "room"] (defScope sBack) := ⟨rfl, rfl, rfl, by decide +kernel, rfl, by decide +kernel, by decide +kernel⟩
def spBack (CJ C CP : Addr) : Sp := fun vs H Q _ => ∃ (F : Hp) (j pl : Addr) (al : List Nat) (room : Nat) (B : List (List Ent)) (st : List Stp), vs = [.ref j, .str (S al), .ref pl, .int (room : Int)] ∧ JrnAt F H j CJ C CP al room B st st.length ∧ Same F H ∧ PastAt F pl B ∧ ∀ H', Q (.bl true) H'
theorem ok_back {f CJ C CP : Addr} {fd : FuncData} (F : Fun K "_law_all_back" "_law_all_back" sBack f fd) (S0 : SameT mg) (J : JrC P w K mg base CJ C CP) (ci : Cal P w K mg base "_law_is" 5 ["book", "letters", "pairs", "room"] (spIs C CP)) (cs : Cal P w K mg base "_law_same" 4 ["actual", "expected"] (spSame K 4)) :
    FnOk P w K mg base CX0 14 f fd ["journal", "letters", "past", "room"] (spBack CJ C CP) := by
  refine F.ok scBack (fun vs H Q E h => ?_) (fun cdv A outer s H vs Q E hr h => ?_)
  · obtain ⟨F, j, pl, al, room, B, st, rfl, _⟩ := h
    rfl
  obtain ⟨F, j, pl, al, room, B, st, rfl, JA, sF, hP, q⟩ := h
  obtain ⟨fb, fdb, Fb, mb, bb⟩ := J.book.ex
  obtain ⟨fl, fdl, Fl, ml, bl⟩ := J.len.ex
  obtain ⟨fu, fdu, Fu, mu, bu⟩ := J.undo.ex
  obtain ⟨fr, fdr, Fr, mr, br⟩ := J.redo.ex
  refine ⟨_, (C8.pss_cut (ps_for PassesOwn.never rfl (pi_range1 (by rfl) S0.range (pa_cons (pe_op op_sub (pB1 call_len_seq S0.len (pv 2)) pe_int) pa_nil)) (pg_name (i := 4) scBack.nd rfl (Or.inl rfl))
      (pss_cons (ps_if (pt_not (pt_truth (pcall cs hr (pa_cons (pe_meth0 (pv 0) J.T.cl mu Fu hr bu .nil pass0) (pa_cons pe_bl pa_nil))) (by intro _; rfl)))
        (pss_one (ps_ret pe_bl))
        pss_nil)
      (pss_one (ps_if (pt_not (pt_truth (pcall ci hr (pa_cons (pe_meth0 (pv 0) J.T.cl mb Fb (hr.mono (by decide)) bb .nil pass0) (pa_cons (pv 1) (pa_cons (pixL (pv 2) (pe_op op_sub (pe_op op_sub (pB1 call_len_seq S0.len (pv 2)) pe_int) (pv 4))) (pa_cons (pv 3) pa_nil))))) (by intro _; rfl)))
        (pss_one (ps_ret pe_bl))
        pss_nil))))
    (C8.pss_cut (ps_if (pt_not (pt_truth (pcall cs hr (pa_cons (pe_lst (pa_cons (pe_meth0 (pv 0) J.T.cl mu Fu hr bu .nil pass0) (pa_cons (pB1 (call_lenOwn (E := E0) Fl ml bl pass0 (hr.mono (by decide))) S0.len (pv 0)) pa_nil))) (pa_cons (pe_lst (pa_cons pe_bl (pa_cons pe_int pa_nil))) pa_nil))) (by intro _; rfl)))
      (pss_one (ps_ret pe_bl))
      pss_nil)
    (pss_cons (ps_for PassesOwn.never rfl (pi_range1 (by rfl) S0.range (pa_cons (pe_op op_sub (pB1 call_len_seq S0.len (pv 2)) pe_int) pa_nil)) (pg_name (i := 4) scBack.nd rfl (Or.inl rfl))
      (pss_one (ps_if (PW.pt (pw_or (pt_not (pt_truth (pcall cs hr (pa_cons (pe_meth0 (pv 0) J.T.cl mr Fr (hr.mono (by decide)) br .nil pass0) (pa_cons pe_bl pa_nil))) (by intro _; rfl))) (pw_or1 (pt_not (pt_truth (pcall ci hr (pa_cons (pe_meth0 (pv 0) J.T.cl mb Fb (hr.mono (by decide)) bb .nil pass0) (pa_cons (pv 1) (pa_cons (pixL (pv 2) (pe_op op_add (pv 4) pe_int)) (pa_cons (pv 3) pa_nil))))) (by intro _; rfl))))))
        (pss_one (ps_ret pe_bl))
        pss_nil)))
    (pss_one (ps_ret pe_bl))))), ?_⟩
  obtain ⟨_, _, _, _, _, _, _, _, _, _, _, _, JJ, _⟩ := id JA
  have hh := JJ.h
  have hlB := JJ.h.len
  have hz := JJ.z
  have len : ∀ {H' : Hp}, Same F H' → ∃ xs, H' pl = some (.lst xs) ∧ xs.length = st.length + 1 := fun s => by
    obtain ⟨xs, h1, h2⟩ := (hP.mono s).len
    exact ⟨xs, h1, by omega⟩
  have bools : ∀ {X : Cx} {b : Bool} {H' : Hp} {Qq : VK}, (∀ H'', Same H' H'' → Qq (.bl true) H'') → spSame K 4 [.bl b, .bl b] H' Qq E0 := fun {X b H' Qq} h => ⟨.bl b, .bl b, .bool b, .bool b, rfl, .bl _, .bl _, trivial, fun c H'' s'' hb => by rw [hb.mpr rfl]; exact h H'' s''⟩
  refine ⟨fun σ' H' => ∃ x4, σ' = [some (.ref j), some (.str (S al)), some (.ref pl), some (.int (room : Int)), x4] ∧ Same F H' ∧ JrnAt F H' j CJ C CP al room B st 0, ?_, ?_⟩
  · obtain ⟨xs, hxs, hxl⟩ := len sF
    refine ⟨_, rfl, pl, _, rfl, .inl (SqL.of hxs), _, _, rfl, rfl, _, rfl, by omega, by omega, ?_⟩
    rw [hxl, show ((st.length + 1 : Nat) : Int) - 1 = (st.length : Int) by omega]
    refine for_range (lo := 0) (n := st.length) (fun i σ' H' => ∃ x4, σ' = [some (.ref j), some (.str (S al)), some (.ref pl), some (.int (room : Int)), x4] ∧ Same F H' ∧ JrnAt F H' j CJ C CP al room B st (st.length - i)) ⟨none, rfl, sF, JA⟩ ?_ (fun σ H' ⟨x4, e, s', J'⟩ => ⟨x4, e, s', by rw [Nat.sub_self] at J'; exact J'⟩)
    rintro i σ H1 hi ⟨x4, rfl, s1, J1⟩
    obtain ⟨m, hm⟩ : ∃ m, st.length - i = m + 1 := ⟨st.length - i - 1, by omega⟩
    have hm2 : st.length - (i + 1) = m := by omega
    obtain ⟨jx1, _, _, _, _, _, _, _, _, _, _, _, JJ1, _⟩ := id J1
    rw [hm2]
    refine ⟨_, rfl, j, jx1, _, rfl, JJ1.o, jf_no _ _ _ _ (by decide +kernel), F, j, al, room, B, st, _, rfl, J1, s1, (fun z => by omega), fun m' hm' H2 s2 J2 => ?_⟩
    have em : m' = m := by omega
    subst em
    refine ⟨_, _, .bool true, .bool true, rfl, .bl _, .bl _, trivial, fun b H3 s3 hb => ?_⟩
    have hb1 := hb.mpr rfl
    subst hb1
    refine ⟨_, rfl, ?_⟩
    refine ite2 (fun z => (by cases z)) (fun _ => ?_)
    have J3 := J2.same s3
    obtain ⟨jx3, _, _, _, _, _, _, _, _, _, _, es3, JJ3, hes3⟩ := id J3
    refine ⟨_, rfl, j, jx3, _, rfl, JJ3.o, jf_no _ _ _ _ (by decide +kernel), F, j, al, room, B, st, m', rfl, J3.part, fun es' p H4 he s4 bn => ?_⟩
    rw [hes3] at he
    cases he
    have s04 : Same F H4 := s2.trans (s3.trans s4)
    obtain ⟨xs2, p2, h1, h2, h3, h4⟩ := (hP.mono s04).get hes3
    obtain ⟨dx5, td5, pd5, f15, f25, B5, n5, n6, n7⟩ := bn
    refine ⟨_, rfl, _, rfl, _, rfl, pl, _, rfl, .inl (SqL.of h1), _, _, rfl, rfl, _, rfl, _, _, rfl, rfl, pl, _, _, _, rfl, rfl, SqL.of h1, ?_, _, rfl, p, p2, al, room, es3, rfl, ⟨dx5, td5, pd5, f15, f25, B5⟩, (hh.ok hes3).u, h4, fun H5 s5 => ⟨_, rfl, ?_⟩⟩
    · rw [h2, hlB, show ((st.length + 1 : Nat) : Int) - 2 - (0 + (i : Int)) = (m' : Int) by omega]
      exact h3
    refine ite2 (fun z => (by cases z)) (fun _ => ?_)
    exact ⟨_, rfl, s04.trans s5, J3.same (s4.trans s5)⟩
  rintro σ' H1 ⟨x4, rfl, s1, J1⟩
  refine ⟨fun σ' H' => σ' = [some (.ref j), some (.str (S al)), some (.ref pl), some (.int (room : Int)), x4] ∧ Same F H' ∧ JrnAt F H' j CJ C CP al room B st 0, ?_, ?_⟩
  · obtain ⟨jx1, _, _, _, _, _, _, _, _, _, _, _, JJ1, _⟩ := id J1
    refine ⟨_, rfl, j, jx1, _, rfl, JJ1.o, jf_no _ _ _ _ (by decide +kernel), F, j, al, room, B, st, 0, rfl, J1, s1, (fun _ => ?_), (fun m hm => nomatch hm)⟩
    refine ⟨_, rfl, j, jx1, _, rfl, JJ1.o, F, j, al, room, B, st, 0, rfl, J1.part, ⟨0, rfl, sz (by omega), by show 2 ≤ sizeLine; decide, fun x hx => ⟨by show 2 ≤ sizeLine; decide, fun y hy => ?_⟩⟩⟩
    have s2 := same_new hx (.lst [.bl false, .int ((0 : Nat) : Int)])
    have s3 := same_new hy (.lst [.bl false, .int 0])
    refine ⟨.ref x, .ref y, .list [.bool false, .int 0], .list [.bool false, .int 0], rfl, .lst (SqL.of (s3 _ _ upd_same)) (.cons (.bl _) (.cons (.int _) .nil)), .lst (SqL.of upd_same) (.cons (.bl _) (.cons (.int _) .nil)), ?_, fun b H3 s4 hb => ?_⟩
    · refine ⟨by show 2 ≤ 100000; decide, fun d hd => ?_⟩
      rcases List.mem_cons.mp hd with rfl | hd
      · trivial
      rw [List.mem_singleton.mp hd]
      trivial
    have hb1 := hb.mpr rfl
    subst hb1
    refine ⟨_, rfl, ?_⟩
    refine ite2 (fun z => (by cases z)) (fun _ => ?_)
    exact ⟨rfl, s1.trans (s2.trans (s3.trans s4)), J1.same (s2.trans (s3.trans s4))⟩
  clear s1 J1
  rintro σ' H1 ⟨rfl, s1, J1⟩
  obtain ⟨xs, hxs, hxl⟩ := len s1
  refine ⟨_, rfl, pl, _, rfl, .inl (SqL.of hxs), _, _, rfl, rfl, _, rfl, by omega, by omega, ?_⟩
  rw [hxl, show ((st.length + 1 : Nat) : Int) - 1 = (st.length : Int) by omega]
  refine for_range (lo := 0) (n := st.length) (fun i σ' H' => ∃ x4, σ' = [some (.ref j), some (.str (S al)), some (.ref pl), some (.int (room : Int)), x4] ∧ Same F H' ∧ JrnAt F H' j CJ C CP al room B st i) ⟨x4, rfl, s1, J1⟩ ?_ (fun σ H' ⟨x4, e, s', J'⟩ => q H')
  rintro i σ H2 hi ⟨y4, rfl, s2, J2⟩
  obtain ⟨jx2, _, _, _, _, _, _, _, _, _, _, _, JJ2, _⟩ := id J2
  refine ⟨_, rfl, j, jx2, _, rfl, JJ2.o, jf_no _ _ _ _ (by decide +kernel), F, j, al, room, B, st, i, rfl, J2, s2, (fun z => by omega), fun _ H3 s3 J3 => ?_⟩
  refine ⟨_, _, .bool true, .bool true, rfl, .bl _, .bl _, trivial, fun b H4 s4 hb => ?_⟩
  have hb1 := hb.mpr rfl
  subst hb1
  refine ⟨_, rfl, ?_⟩
  refine ite2 (fun z => (by cases z)) (fun _ => ?_)
  have J4 := J3.same s4
  obtain ⟨jx4, _, _, _, _, _, _, _, _, _, _, es4, JJ4, hes4⟩ := id J4
  refine ⟨_, rfl, j, jx4, _, rfl, JJ4.o, jf_no _ _ _ _ (by decide +kernel), F, j, al, room, B, st, i + 1, rfl, J4.part, fun es' p H5 he s5 bn => ?_⟩
  rw [hes4] at he
  cases he
  have s05 : Same F H5 := s3.trans (s4.trans s5)
  obtain ⟨xs2, p2, h1, h2, h3, h4⟩ := (hP.mono s05).get hes4
  obtain ⟨dx5, td5, pd5, f15, f25, B5, n5, n6, n7⟩ := bn
  refine ⟨_, rfl, _, rfl, _, rfl, _, _, rfl, rfl, pl, _, _, _, rfl, rfl, SqL.of h1, ?_, _, rfl, p, p2, al, room, es4, rfl, ⟨dx5, td5, pd5, f15, f25, B5⟩, (hh.ok hes4).u, h4, fun H6 s6 => ⟨_, rfl, ?_⟩⟩
  · rw [show (0 : Int) + (i : Int) + 1 = ((i + 1 : Nat) : Int) by omega]
    exact h3
  refine ite2 (fun z => (by cases z)) (fun _ => ?_)
  exact ⟨_, rfl, s05.trans s6, J4.same (s5.trans s6)⟩
end
end W8

set_option Elab.async false
set_option linter.all false
set_option maxRecDepth 100000
set_option maxHeartbeats 4000000
namespace W8
open PySem PySem.Spec PyProof.Rows L2 L2E
/-- what the law's lists and its journal are: G stands still, F is all of the law's own -/
structure LI (K : PySem.W.Frag) (G F H : Hp) (a pp N pl fl j CJ C CP : Addr) (al : List Nat) (room : Nat) (nm : List (List Nat)) (B : List (List Ent)) (st : List Stp) (n : Nat) (Xs Ys : List (List Ent)) : Prop where
  sG : Same G F
  sF : Same F H
  J : JrnAt F H j CJ C CP al room B st n
  S : StOk K F a pp
  gp : G pp ≠ none
  N : G N = some (.lst (sgs nm))
  P : ∃ ps : List Addr, F pl = some (.lst (ps.map V.ref)) ∧ Paired (fun (p : Addr) (es : List Ent) => Prs G p es) ps Xs
  U : ∃ qs : List Addr, F fl = some (.lst (qs.map V.ref)) ∧ Paired (fun (p : Addr) (es : List Ent) => Prs G p es) qs Ys
  ga : G a = none
  gl : G pl = none
  gf : G fl = none
  n1 : pl ≠ fl
  n2 : a ≠ pl
  n3 : a ≠ fl
section
variable {K : PySem.W.Frag} {G F H H' : Hp} {a pp N pl fl j CJ C CP : Addr} {al : List Nat} {room : Nat} {nm : List (List Nat)} {B B' : List (List Ent)} {st st' : List Stp} {n n' : Nat} {Xs Ys : List (List Ent)}
theorem LI.same (h : LI K G F H a pp N pl fl j CJ C CP al room nm B st n Xs Ys) (s : Same H H') : LI K G F H' a pp N pl fl j CJ C CP al room nm B st n Xs Ys :=
  ⟨h.sG, h.sF.trans s, h.J.same s, h.S, h.gp, h.N, h.P, h.U, h.ga, h.gl, h.gf, h.n1, h.n2, h.n3⟩
theorem LI.jrn (h : LI K G F H a pp N pl fl j CJ C CP al room nm B st n Xs Ys) (s : Same F H') (J : JrnAt F H' j CJ C CP al room B' st' n') : LI K G F H' a pp N pl fl j CJ C CP al room nm B' st' n' Xs Ys :=
  ⟨h.sG, s, J, h.S, h.gp, h.N, h.P, h.U, h.ga, h.gl, h.gf, h.n1, h.n2, h.n3⟩
theorem LI.past (h : LI K G F H a pp N pl fl j CJ C CP al room nm B st n Xs Ys) : PastAt F pl Xs := by
  obtain ⟨ps, h1, h2⟩ := h.P
  exact ⟨ps, h1, Paired.mapP h2 fun _ _ z => z.mono h.sG⟩
theorem LI.pastH (h : LI K G F H a pp N pl fl j CJ C CP al room nm B st n Xs Ys) : PastAt H pl Xs := h.past.mono h.sF
theorem LI.nH (h : LI K G F H a pp N pl fl j CJ C CP al room nm B st n Xs Ys) : H N = some (.lst (sgs nm)) := h.sF _ _ (h.sG _ _ h.N)
/-- a draw -/
theorem LI.draw (h : LI K G F H a pp N pl fl j CJ C CP al room nm B st n Xs Ys) (b : But a H H') (s : StOk K H' a pp) : ∃ F', LI K G F' H' a pp N pl fl j CJ C CP al room nm B st n Xs Ys := by
  obtain ⟨i, v, l, m, e⟩ := s.at_
  obtain ⟨i0, v0, l0, m0, e0⟩ := h.S.at_
  obtain ⟨cs', i1, v1, l1, m1, S'⟩ := s
  obtain ⟨cs, i2, v2, l2, m2, S0⟩ := h.S
  have npa := S0.ne
  refine ⟨upd F a (.lst (stL pp i v l m)), same_off h.sG h.ga, fun x o hx => ?_, ?_, ⟨cs', i1, v1, l1, m1, ⟨by rw [upd_same, ← e, S'.h], ?_, S'.ne, S'.b, S'.n, S'.i0, S'.v0, S'.m0⟩⟩, h.gp, h.N, ?_, ?_, h.ga, h.gl, h.gf, h.n1, h.n2, h.n3⟩
  · by_cases hxa : x = a
    · rw [hxa, upd_same] at hx
      rw [hxa, e, hx]
    · rw [upd_ne hxa] at hx
      exact b x o hxa (h.sF x o hx)
  · refine h.J.move b (h.sF _ _ e0) (by rw [e0]; simp) fun x hx => ?_
    by_cases hxa : x = a
    · rw [hxa, e0]; exact .inl (by simp)
    · rw [upd_ne hxa] at hx
      exact .inl hx
  · rw [upd_ne npa]
    have h1 := b _ _ npa (h.sF _ _ S0.c)
    rw [S'.c] at h1
    rw [S0.c, ← h1]
  · obtain ⟨ps, h1, h2⟩ := h.P
    exact ⟨ps, by rw [upd_ne (Ne.symm h.n2)]; exact h1, h2⟩
  · obtain ⟨ps, h1, h2⟩ := h.U
    exact ⟨ps, by rw [upd_ne (Ne.symm h.n3)]; exact h1, h2⟩
/-- new things that stand still -/
theorem LI.grow {G' : Hp} (h : LI K G F H a pp N pl fl j CJ C CP al room nm B st n Xs Ys) (g : Gro G H G' H') : ∃ F', LI K G' F' H' a pp N pl fl j CJ C CP al room nm B st n Xs Ys := by
  obtain ⟨i0, v0, l0, m0, e0⟩ := h.S.at_
  obtain ⟨ps, p1, p2⟩ := h.P
  obtain ⟨qs, u1, u2⟩ := h.U
  have no : ∀ {x : Addr} {o : HO}, F x = some o → G x = none → G' x = none := fun {x o} h1 h2 => Classical.byContradiction fun z => by
    rcases g.n x z with w | w
    · exact w h2
    · rw [h.sF _ _ h1] at w; cases w
  have sFF : Same F (fun x => match G' x with | some o => some o | none => F x) := fun x o hx => by
    show (match G' x with | some o => some o | none => F x) = some o
    cases hg : G' x with
    | none => exact hx
    | some o' =>
      have h1 := g.s x o' hg
      rw [g.h _ _ (h.sF _ _ hx)] at h1
      exact h1.symm
  refine ⟨fun x => match G' x with | some o => some o | none => F x, fun x o hx => by show (match G' x with | some o => some o | none => F x) = some o; rw [hx], fun x o hx => ?_, ?_, h.S.mono sFF, fun z => ?_, g.g _ _ h.N, ⟨ps, sFF _ _ p1, Paired.mapP p2 fun _ _ z => z.mono g.g⟩, ⟨qs, sFF _ _ u1, Paired.mapP u2 fun _ _ z => z.mono g.g⟩, no e0 h.ga, no p1 h.gl, no u1 h.gf, h.n1, h.n2, h.n3⟩
  · cases hg : G' x with
    | none =>
      have hx' : F x = some o := by
        have : (match G' x with | some o => some o | none => F x) = some o := hx
        rw [hg] at this
        exact this
      exact g.h _ _ (h.sF _ _ hx')
    | some o' =>
      have hx' : some o' = some o := by
        have : (match G' x with | some o => some o | none => F x) = some o := hx
        rw [hg] at this
        exact this
      rw [← hx']
      exact g.s _ _ hg
  · refine h.J.move (But.of g.h) (h.sF _ _ e0) (by rw [e0]; simp) fun x hx => ?_
    cases hg : G' x with
    | none =>
      refine .inl fun z => hx ?_
      show (match G' x with | some o => some o | none => F x) = none
      rw [hg]
      exact z
    | some o' =>
      rcases g.n x (by rw [hg]; simp) with w | w
      · refine .inl fun z => w ?_
        cases hgx : G x with
        | none => rfl
        | some o => rw [h.sG _ _ hgx] at z; cases z
      · exact .inr w
  · cases hg : G pp with
    | none => exact h.gp hg
    | some o => rw [g.g _ _ hg] at z; cases z
theorem LI.setP (h : LI K G F H a pp N pl fl j CJ C CP al room nm B st n Xs Ys) {ps : List Addr} {Zs : List (List Ent)} (p : Paired (fun (p : Addr) (es : List Ent) => Prs G p es) ps Zs) : LI K G (upd F pl (.lst (ps.map V.ref))) (upd H pl (.lst (ps.map V.ref))) a pp N pl fl j CJ C CP al room nm B st n Zs Ys := by
  obtain ⟨ps0, p1, p2⟩ := h.P
  obtain ⟨cs, i2, v2, l2, m2, S0⟩ := h.S
  have npp : pp ≠ pl := fun z => h.gp (z ▸ h.gl)
  refine ⟨same_off h.sG h.gl, fun x o hx => ?_, ?_, ⟨cs, i2, v2, l2, m2, ⟨by rw [upd_ne h.n2]; exact S0.h, by rw [upd_ne npp]; exact S0.c, S0.ne, S0.b, S0.n, S0.i0, S0.v0, S0.m0⟩⟩, h.gp, h.N, ⟨ps, upd_same, p⟩, ?_, h.ga, h.gl, h.gf, h.n1, h.n2, h.n3⟩
  · by_cases hx2 : x = pl
    · subst hx2
      rw [upd_same] at hx ⊢
      exact hx
    · rw [upd_ne hx2] at hx ⊢
      exact h.sF _ _ hx
  · refine h.J.move But.upd (h.sF _ _ p1) (by rw [p1]; simp) fun x hx => ?_
    by_cases hx2 : x = pl
    · rw [hx2, p1]; exact .inl (by simp)
    · rw [upd_ne hx2] at hx
      exact .inl hx
  · obtain ⟨qs, u1, u2⟩ := h.U
    exact ⟨qs, by rw [upd_ne (Ne.symm h.n1)]; exact u1, u2⟩
theorem LI.setU (h : LI K G F H a pp N pl fl j CJ C CP al room nm B st n Xs Ys) {ps : List Addr} {Zs : List (List Ent)} (p : Paired (fun (p : Addr) (es : List Ent) => Prs G p es) ps Zs) : LI K G (upd F fl (.lst (ps.map V.ref))) (upd H fl (.lst (ps.map V.ref))) a pp N pl fl j CJ C CP al room nm B st n Xs Zs := by
  obtain ⟨ps0, p1, p2⟩ := h.U
  obtain ⟨cs, i2, v2, l2, m2, S0⟩ := h.S
  have npp : pp ≠ fl := fun z => h.gp (z ▸ h.gf)
  refine ⟨same_off h.sG h.gf, fun x o hx => ?_, ?_, ⟨cs, i2, v2, l2, m2, ⟨by rw [upd_ne h.n3]; exact S0.h, by rw [upd_ne npp]; exact S0.c, S0.ne, S0.b, S0.n, S0.i0, S0.v0, S0.m0⟩⟩, h.gp, h.N, ?_, ⟨ps, upd_same, p⟩, h.ga, h.gl, h.gf, h.n1, h.n2, h.n3⟩
  · by_cases hx2 : x = fl
    · subst hx2
      rw [upd_same] at hx ⊢
      exact hx
    · rw [upd_ne hx2] at hx ⊢
      exact h.sF _ _ hx
  · refine h.J.move But.upd (h.sF _ _ p1) (by rw [p1]; simp) fun x hx => ?_
    by_cases hx2 : x = fl
    · rw [hx2, p1]; exact .inl (by simp)
    · rw [upd_ne hx2] at hx
      exact .inl hx
  · obtain ⟨qs, u1, u2⟩ := h.P
    exact ⟨qs, by rw [upd_ne h.n1]; exact u1, u2⟩
/-- future = [] -/
theorem LI.newU (h : LI K G F H a pp N pl fl j CJ C CP al room nm B st n Xs Ys) {x : Addr} (hx : H x = none) : LI K G (upd F x (.lst [])) (upd H x (.lst [])) a pp N pl x j CJ C CP al room nm B st n Xs [] := by
  obtain ⟨ps0, p1, p2⟩ := h.P
  obtain ⟨i0, v0, l0, m0, e0⟩ := h.S.at_
  have fx : F x = none := h.sF.free hx
  have gx : G x = none := h.sG.free fx
  have nl : pl ≠ x := fun z => by rw [z, fx] at p1; cases p1
  have na : a ≠ x := fun z => by rw [z, fx] at e0; cases e0
  have sn := same_new fx (.lst [])
  refine ⟨h.sG.trans sn, fun y o hy => ?_, ?_, h.S.mono sn, h.gp, h.N, ⟨ps0, sn _ _ p1, p2⟩, ⟨[], upd_same, .nil⟩, h.ga, h.gl, gx, nl, h.n2, na⟩
  · by_cases hy2 : y = x
    · subst hy2
      rw [upd_same] at hy ⊢
      exact hy
    · rw [upd_ne hy2] at hy ⊢
      exact h.sF _ _ hy
  · refine h.J.move (But.of (same_new hx (.lst []))) (h.sF _ _ e0) (by rw [e0]; simp) fun y hy => ?_
    by_cases hy2 : y = x
    · exact .inr (hy2 ▸ hx)
    · rw [upd_ne hy2] at hy
      exact .inl hy
theorem same_both {F H : Hp} {x : Addr} {o : HO} (s : Same F H) : Same (upd F x o) (upd H x o) := fun y u hy => by
  by_cases h : y = x
  · subst h
    rw [upd_same] at hy ⊢
    exact hy
  · rw [upd_ne h] at hy ⊢
    exact s y u hy
theorem LI.init {H5 : Hp} {e : Addr} (S4 : StOk K H a pp) (hN : H N = some (.lst (sgs nm))) (s5 : Same H H5) (J5 : JrnAt H H5 j CJ C CP al room B st n) (he : H5 e = none) (hpl : upd H5 e (.lst []) pl = none) (hfl : upd (upd H5 e (.lst [])) pl (.lst [.ref e]) fl = none) :
    ∃ G F, LI K G F (upd (upd (upd H5 e (.lst [])) pl (.lst [.ref e])) fl (.lst [])) a pp N pl fl j CJ C CP al room nm B st n [[]] [] := by
  obtain ⟨i4, v4, l4, m4, ea⟩ := S4.at_
  have nNa := S4.ne_sgs hN
  obtain ⟨cs, _, _, _, _, X⟩ := id S4
  have nep : e ≠ pl := ne_of_none upd_same hpl
  have npf : pl ≠ fl := ne_of_none upd_same hfl
  have hpl5 : H5 pl = none := by rw [upd_ne (Ne.symm nep)] at hpl; exact hpl
  have hfl6 : upd H5 e (.lst []) fl = none := by rw [upd_ne (Ne.symm npf)] at hfl; exact hfl
  have nef : e ≠ fl := ne_of_none upd_same hfl6
  have hfl5 : H5 fl = none := by rw [upd_ne (Ne.symm nef)] at hfl6; exact hfl6
  have hea : H e = none := s5.free he
  have hpa : H pl = none := s5.free hpl5
  have hfa : H fl = none := s5.free hfl5
  have old : ∀ {x : Addr} {o : HO}, H x = some o → x ≠ e ∧ x ≠ pl ∧ x ≠ fl := fun {x o} h => ⟨ne_of_none h hea, ne_of_none h hpa, ne_of_none h hfa⟩
  have sHF : Same H (upd (upd (upd H e (.lst [])) pl (.lst [.ref e])) fl (.lst [])) := fun x o h => by
    obtain ⟨h1, h2, h3⟩ := old h
    rw [upd_ne h3, upd_ne h2, upd_ne h1]
    exact h
  have g1 : ∀ {x : Addr}, x ≠ e → x ≠ a → upd (fun x => if x = a then none else H x) e (.lst []) x = H x := fun {x} h1 h2 => by
    rw [upd_ne h1]
    exact if_neg h2
  have g0 : ∀ {x : Addr}, x ≠ e → H x = none → upd (fun x => if x = a then none else H x) e (.lst []) x = none := fun {x} h1 h2 => by
    rw [upd_ne h1]
    show (if x = a then none else H x) = none
    split
    · rfl
    · exact h2
  refine ⟨upd (fun x => if x = a then none else H x) e (.lst []), upd (upd (upd H e (.lst [])) pl (.lst [.ref e])) fl (.lst []), fun x o h => ?_, same_both (same_both (same_both s5)), ?_, S4.mono sHF, ?_, ?_, ⟨[e], by rw [upd_ne npf, upd_same]; rfl, .cons ⟨[], upd_same, .nil⟩ .nil⟩, ⟨[], upd_same, .nil⟩, ?_, g0 (Ne.symm nep) hpa, g0 (Ne.symm nef) hfa, npf, (old ea).2.1, (old ea).2.2⟩
  · by_cases hx : x = e
    · subst hx
      rw [upd_same] at h
      rw [upd_ne nef, upd_ne nep, upd_same]
      exact h
    · rw [upd_ne hx] at h
      have h' : (if x = a then none else H x) = some o := h
      split at h'
      · cases h'
      · exact sHF _ _ h'
  · refine J5.move (a := a) (But.of ((same_new he _).trans ((same_new hpl _).trans (same_new hfl _)))) (s5 _ _ ea) (by rw [ea]; simp) fun x hx => ?_
    by_cases h3 : x = fl
    · exact .inr (h3 ▸ hfl5)
    · rw [upd_ne h3] at hx
      by_cases h2 : x = pl
      · exact .inr (h2 ▸ hpl5)
      · rw [upd_ne h2] at hx
        by_cases h1 : x = e
        · exact .inr (h1 ▸ he)
        · rw [upd_ne h1] at hx
          exact .inl hx
  · rw [g1 (old X.c).1 X.ne, X.c]
    simp
  · rw [g1 (old hN).1 nNa]
    exact hN
  · rw [upd_ne (old ea).1]
    exact if_pos rfl
/-- a draw that leaves new things, too -/
theorem LI.drawG {G' : Hp} (h : LI K G F H a pp N pl fl j CJ C CP al room nm B st n Xs Ys) (b : But a H H') (s : StOk K H' a pp) (hg : Same G G') (hs : Same G' H') (hn : ∀ x, G' x ≠ none → G x ≠ none ∨ H x = none) : ∃ F', LI K G' F' H' a pp N pl fl j CJ C CP al room nm B st n Xs Ys := by
  obtain ⟨i, v, l, m, e⟩ := s.at_
  obtain ⟨i0, v0, l0, m0, e0⟩ := h.S.at_
  have eH := h.sF _ _ e0
  obtain ⟨cs', i1, v1, l1, m1, S'⟩ := s
  obtain ⟨cs, i2, v2, l2, m2, S0⟩ := h.S
  have hpp := b _ _ S0.ne (h.sF _ _ S0.c)
  have sm : StOk K (upd H a (.lst (stL pp i v l m))) a pp := ⟨cs', i1, v1, l1, m1, ⟨by rw [upd_same, ← e, S'.h], by rw [upd_ne S'.ne, h.sF _ _ S0.c, ← hpp, S'.c], S'.ne, S'.b, S'.n, S'.i0, S'.v0, S'.m0⟩⟩
  obtain ⟨F1, I1⟩ := h.draw But.upd sm
  refine I1.grow ⟨hg, fun x o hx => ?_, hs, fun x hx => ?_⟩
  · by_cases hxa : x = a
    · subst hxa
      rw [upd_same] at hx
      rw [e]
      exact hx
    · rw [upd_ne hxa] at hx
      exact b x o hxa hx
  · rcases hn x hx with w | w
    · exact .inl w
    · refine .inr ?_
      rw [upd_ne (fun z => by rw [z, eH] at w; cases w)]
      exact w
theorem LI.lastP {es : List Ent} {k : Nat} (h : LI K G F H a pp N pl fl j CJ C CP al room nm B st n Xs Ys) (hl : Xs.length = k + 1) (he : Xs[k]? = some es) : ∃ xs p, H pl = some (.lst xs) ∧ atI xs (-1) = some (.ref p) ∧ Prs G p es := by
  obtain ⟨ps, p1, p2⟩ := h.P
  have hps : ps.length = k + 1 := by rw [Paired.length p2, hl]
  have hp := List.getElem?_eq_getElem (show k < ps.length by omega)
  obtain ⟨es', e2, hq⟩ := L2.paired_get p2 hp
  rw [he] at e2
  cases e2
  exact ⟨_, _, h.sF _ _ p1, at_minus (by rw [List.length_map]; exact hps) (atI_nat (by rw [List.getElem?_map, hp]; rfl)), hq⟩
theorem LI.popP {e : List Ent} (h : LI K G F H a pp N pl fl j CJ C CP al room nm B st n (Xs ++ [e]) Ys) : ∃ (ps : List Addr) (p : Addr), H pl = some (.lst (ps.map V.ref ++ [.ref p])) ∧ Prs G p e ∧ LI K G (upd F pl (.lst (ps.map V.ref))) (upd H pl (.lst (ps.map V.ref))) a pp N pl fl j CJ C CP al room nm B st n Xs Ys := by
  obtain ⟨ps, p1, p2⟩ := h.P
  obtain ⟨zs, x, rfl, q1, q2⟩ := paired_unsnoc p2
  refine ⟨zs, x, ?_, q2, h.setP q1⟩
  rw [h.sF _ _ p1, List.map_append]
  rfl
theorem LI.popU {e : List Ent} (h : LI K G F H a pp N pl fl j CJ C CP al room nm B st n Xs (Ys ++ [e])) : ∃ (ps : List Addr) (p : Addr), H fl = some (.lst (ps.map V.ref ++ [.ref p])) ∧ Prs G p e ∧ LI K G (upd F fl (.lst (ps.map V.ref))) (upd H fl (.lst (ps.map V.ref))) a pp N pl fl j CJ C CP al room nm B st n Xs Ys := by
  obtain ⟨ps, p1, p2⟩ := h.U
  obtain ⟨zs, x, rfl, q1, q2⟩ := paired_unsnoc p2
  refine ⟨zs, x, ?_, q2, h.setU q1⟩
  rw [h.sF _ _ p1, List.map_append]
  rfl
theorem LI.pushP {e : List Ent} {p : Addr} (h : LI K G F H a pp N pl fl j CJ C CP al room nm B st n Xs Ys) (hp : Prs G p e) : ∃ zs F', H pl = some (.lst zs) ∧ zs.length = Xs.length ∧ LI K G F' (upd H pl (.lst (zs ++ [.ref p]))) a pp N pl fl j CJ C CP al room nm B st n (Xs ++ [e]) Ys := by
  obtain ⟨ps, p1, p2⟩ := h.P
  have := h.setP (paired_snoc p2 hp)
  rw [List.map_append] at this
  exact ⟨ps.map V.ref, _, h.sF _ _ p1, by rw [List.length_map, Paired.length p2], this⟩
theorem LI.pushU {e : List Ent} {p : Addr} (h : LI K G F H a pp N pl fl j CJ C CP al room nm B st n Xs Ys) (hp : Prs G p e) : ∃ zs F', H fl = some (.lst zs) ∧ zs.length = Ys.length ∧ LI K G F' (upd H fl (.lst (zs ++ [.ref p]))) a pp N pl fl j CJ C CP al room nm B st n Xs (Ys ++ [e]) := by
  obtain ⟨ps, p1, p2⟩ := h.U
  have := h.setU (paired_snoc p2 hp)
  rw [List.map_append] at this
  exact ⟨ps.map V.ref, _, h.sF _ _ p1, by rw [List.length_map, Paired.length p2], this⟩
end
end W8

set_option Elab.async false
set_option linter.all false
set_option maxRecDepth 100000
set_option maxHeartbeats 4000000
namespace W8
open PySem PySem.Spec PyProof.Rows L2 L2E
abbrev sNew : Stmt := top 60
theorem scNew : FnScope ["script"] ["script"] (defScope sNew) := ⟨rfl, rfl, rfl, by decide +kernel, rfl, by decide +kernel, by decide +kernel⟩
abbrev sLaw : Stmt := top 76
theorem scLaw : FnScope ["script", "state", "letters", "room", "names", "journal", "past", "future", "turn", "kind", "name", "text", "rest", "told", "due", "k"] ["script"] (defScope sLaw) := ⟨rfl, rfl, rfl, by decide +kernel, rfl, by decide +kernel, by decide +kernel⟩
def spLaw (K : PySem.W.Frag) : Sp := fun vs H Q _ => ∃ (a : Addr) (ns : List Int), vs = [.ref a] ∧ SqL K H a (ns.map V.int) ∧ ns.length ≤ 63 ∧ (∀ z ∈ ns, Builtin.Int.intBits z ≤ 1048576) ∧ ∀ H', Q (.bl true) H'
structure LawC (P : Program) (w : World) (K : PySem.W.Frag) (mg : Str → Option Value) (base : Heap) (CJ C CP : Addr) : Prop where
  S : SameT mg
  J : JrC P w K mg base CJ C CP
  mkj : MkCal P w K mg base CJ 4 ["self", "letters", "room"] (spJInit CJ C CP)
  new : Cal P w K mg base "_law_new" 1 ["script"] (spNew K)
  letters : Cal P w K mg base "_law_letters" 2 ["state", "most"] (spLetters K)
  draw : Cal P w K mg base "_law_draw" 1 ["state", "many"] (spDraw K)
  name : Cal P w K mg base "_law_name" 2 ["state"] (spLName K)
  some_ : Cal P w K mg base "_law_some_name" 2 ["state", "names"] (spSome K)
  text : Cal P w K mg base "_law_text" 2 ["state", "letters"] (spText K)
  behind : Cal P w K mg base "_law_behind" 2 ["pairs", "kind", "name", "rest", "fault", "room"] spBehind
  done : Cal P w K mg base "_law_done" 13 ["journal", "kind", "name", "rest"] (spDone CJ C CP)
  stands : Cal P w K mg base "_law_stands" 13 ["journal", "letters", "past", "room"] (spStands CJ C CP)
  ear : Cal P w K mg base "_law_earlier_books" 14 ["journal", "letters", "past", "room"] (spStands CJ C CP)
  back : Cal P w K mg base "_law_all_back" 14 ["journal", "letters", "past", "room"] (spBack CJ C CP)
  same : Cal P w K mg base "_law_same" 4 ["actual", "expected"] (spSame K 4)
/-- what is due as data -/
def Flt.d : Flt → PyData
  | .name n => .str (S n)
  | .text i => .int (i : Int)
  | .lim n => .int (n : Int)
def dueD (f : Flt) : PyData := .list [.str "ValueError", .str "ToolError", .str f.nm, f.d]
theorem due_dp {K : PySem.W.Frag} {H : Hp} {a : Addr} {f : Flt} (h : H a = some (.lst (dueV f))) : Dp K H (.ref a) (dueD f) := by
  refine .lst (SqL.of h) (.cons (.str _) (.cons (.str _) (.cons (.str _) (.cons ?_ .nil))))
  cases f
  · exact .str _
  · exact .int _
  · exact .int _
theorem due_okE (f : Flt) : okE 4 (dueD f) := by
  refine ⟨by show 4 ≤ 100000; decide, fun d hd => ?_⟩
  rcases List.mem_cons.mp hd with rfl | hd
  · trivial
  rcases List.mem_cons.mp hd with rfl | hd
  · trivial
  rcases List.mem_cons.mp hd with rfl | hd
  · trivial
  rw [List.mem_singleton.mp hd]
  cases f <;> trivial
theorem due_sh {f : Flt} (h : ∀ n, f = .name n → ∀ c ∈ n, c < 128) : SeqAt.shaped (dueD f) = true := by
  cases f with
  | name n => simp [dueD, Flt.d, Flt.nm, SeqAt.shaped, PyData.canLay0, PyData.canLayAll0, ok_VE, ok_TE, ok_NF, strOk_name (h n rfl), PyData.depth, PyData.depthAll]
  | text i => simp [dueD, Flt.d, Flt.nm, SeqAt.shaped, PyData.canLay0, PyData.canLayAll0, ok_VE, ok_TE, ok_TX, PyData.depth, PyData.depthAll]
  | lim n => simp [dueD, Flt.d, Flt.nm, SeqAt.shaped, PyData.canLay0, PyData.canLayAll0, ok_VE, ok_TE, ok_LE, PyData.depth, PyData.depthAll]
theorem due_eq (f : Flt) : PyData.eqv (dueD f) (.list []) = false := by simp [dueD, PyData.eqv, PyData.eqvAll]
/-- which names a fault tells -/
def Stp.Nms : Stp → Prop
  | .note n _ => NmFit n
  | .strike n => NmFit n
  | .ren o n => NmFit o ∧ NmFit n
theorem flt_name {al : List Nat} {room : Nat} {es : List Ent} {s : Stp} {n : List Nat} (h : s.Nms) (e : stepE al room es s = .inl (.name n)) : ∀ c ∈ n, c < 128 := by
  cases s with
  | note m t =>
    replace e : noteE al room es m t = .inl (.name n) := e
    unfold noteE at e
    split at e
    · cases e; exact h.2
    · split at e
      · cases e
      · split at e
        · cases e
        · cases e
      · cases e
  | strike m =>
    replace e : strikeE es m = .inl (.name n) := e
    unfold strikeE at e
    split at e
    · cases e; exact h.2
    · cases e
  | ren o m =>
    replace e : renameE es o m = .inl (.name n) := e
    unfold renameE at e
    split at e
    · cases e; exact h.1.2
    · split at e
      · cases e; exact h.2.2
      · cases e
abbrev lawS (a0 a : Addr) (al : List Nat) (room : Nat) (N j pl fl : Addr) (x8 x9 x10 x11 x12 x13 x14 : Option V) : L2.St := [some (.ref a0), some (.ref a), some (.str (S al)), some (.int (room : Int)), some (.ref N), some (.ref j), some (.ref pl), some (.ref fl), x8, x9, x10, x11, x12, x13, x14, none]
section
variable {P : Program} {w : World} {K : PySem.W.Frag} {mg : Str → Option Value} {base : Heap}
theorem ok_new {f : Addr} {fd : FuncData} (F : Fun K "_law_new" "_law_new" sNew f fd) (tl : mg "list" = none) : FnOk P w K mg base CX0 1 f fd ["script"] (spNew K) := by
  refine F.ok scNew (fun vs H Q E h => ?_) (fun cdv A outer s H vs Q E hr h => ?_)
  · obtain ⟨a, ns, rfl, _⟩ := h
    rfl
  obtain ⟨a, ns, rfl, hS, hn, hb, q⟩ := h
  refine ⟨_, (pss_one (ps_ret (pe_lst (pa_cons (pT1 call_list_of tl (pv 0)) (pa_cons pe_int (pa_cons pe_int (pa_cons pe_int (pa_cons pe_int pa_nil)))))))), ?_⟩
  refine ⟨_, rfl, _, _, rfl, .inl hS, fun p hp => ?_⟩
  refine ⟨by show 5 ≤ sizeLine; decide, fun b hb2 => ?_⟩
  have s1 := same_new hp (.lst (ns.map V.int))
  have s2 := same_new hb2 (.lst [.ref p, .int 0, .int 0, .int 0, .int 0])
  have npb : p ≠ b := ne_of_none upd_same hb2
  exact q b p _ (s1.trans s2) ⟨ns, 0, 0, 0, 0, upd_same, s2 _ _ upd_same, npb, hb, hn, by omega, by omega, .inr (by omega)⟩
theorem same_bl {b : Bool} {H : Hp} {Q : VK} {E : XK} (h : ∀ H', Same H H' → Q (.bl true) H') : spSame K 4 [.bl b, .bl b] H Q E := ⟨.bl b, .bl b, .bool b, .bool b, rfl, .bl _, .bl _, trivial, fun c H' s' hb => by rw [hb.mpr rfl]; exact h H' s'⟩
theorem same_bl2 {b b' : Bool} {H : Hp} {Q : VK} {E : XK} (e : b' = b) (h : ∀ H', Same H H' → Q (.bl true) H') : spSame K 4 [.bl b, .bl b'] H Q E := by
  subst e
  exact same_bl h
theorem ok_law {f CJ C CP : Addr} {fd : FuncData} (F : Fun K "law" "law" sLaw f fd) (c : LawC P w K mg base CJ C CP) : FnOk P w K mg base CX0 15 f fd ["script"] (spLaw K) := by
  refine F.ok scLaw (fun vs H Q E h => ?_) (fun cdv A outer sh H vs Q E hr h => ?_)
  · obtain ⟨a, ns, rfl, _⟩ := h
    rfl
  obtain ⟨a0, ns, rfl, hS, hn, hb, q⟩ := h
  obtain ⟨fj, fdj, Fj, mj, bj⟩ := c.mkj.ex
  obtain ⟨fu, fdu, Fu, mu, bu⟩ := c.J.undo.ex
  obtain ⟨fr, fdr, Fr, mr, br⟩ := c.J.redo.ex
  refine ⟨_, (pss_cons (ps_set (i := 1) scLaw.nd rfl (Or.inr rfl) (pcall c.new hr (pa_cons (pv 0) pa_nil)))
    (pss_cons (ps_set (i := 2) scLaw.nd rfl (Or.inl rfl) (pcall c.letters hr (pa_cons (pv 1) (pa_cons pe_int pa_nil))))
    (pss_cons (ps_set (i := 3) scLaw.nd rfl (Or.inl rfl) (pcall c.draw hr (pa_cons (pv 1) (pa_cons pe_int pa_nil))))
    (C8.pss_cut (ps_setLc (i := 4) (own := [("k", 15)]) (g := gName 15) (tt := tYes) rfl scLaw.nd rfl rfl (sw_true rfl rfl rfl (by decide +kernel)) (pi_range1 (by rfl) c.S.range (pa_cons pe_int pa_nil)) (blkOk_by (own := [("k", 15)]) (N := ["script", "state", "letters", "room", "names", "journal", "past", "future", "turn", "kind", "name", "text", "rest", "told", "due", "k"]) (sc := defScope sLaw) (by decide +kernel)) (fun _ _ _ _ _ => (pg_name (i := 15) scLaw.nd rfl (Or.inl rfl))) (fun _ _ _ _ _ => pts_nil) (fun _ _ _ _ _ => (pcall c.name hr (pa_cons (pv 1) pa_nil))))
    (C8.pss_cut (ps_set (i := 5) scLaw.nd rfl (Or.inl rfl) (pe_make mj Fj (hr.mono (by decide)) (by rfl) c.J.T.mgC bj .nil pass0 (pa_cons (pv 2) (pa_cons (pv 3) pa_nil))))
    (pss_cons (ps_set (i := 6) scLaw.nd rfl (Or.inl rfl) (pe_lst (pa_cons (pe_lst pa_nil) pa_nil)))
    (C8.pss_cut (ps_set (i := 7) scLaw.nd rfl (Or.inl rfl) (pe_lst pa_nil))
    (C8.pss_cut (ps_if (PW.pt (pw_or (pt_not (pt_truth (pcall c.stands hr (pa_cons (pv 5) (pa_cons (pv 2) (pa_cons (pv 6) (pa_cons (pv 3) pa_nil))))) (by intro _; rfl))) (pw_or1 (pt_not (pt_truth (pcall c.same hr (pa_cons (pe_fld (pv 5) rfl) (pa_cons (pv 2) pa_nil))) (by intro _; rfl))))))
      (pss_one (ps_ret pe_bl))
      pss_nil)
    (C8.pss_cut (ps_for PassesOwn.never rfl (pi_range1 (by rfl) c.S.range (pa_cons (pcall c.draw hr (pa_cons (pv 1) (pa_cons pe_int pa_nil))) pa_nil)) (pg_name (i := 8) scLaw.nd rfl (Or.inl rfl))
      (C8.pss_cut (ps_set (i := 9) scLaw.nd rfl (Or.inl rfl) (pixL (pe_lst (pa_cons pe_int (pa_cons pe_int (pa_cons pe_int (pa_cons pe_int (pa_cons pe_int (pa_cons pe_int (pa_cons pe_int (pa_cons pe_int pa_nil))))))))) (pcall c.draw hr (pa_cons (pv 1) (pa_cons pe_int pa_nil)))))
      (C8.pss_cut (ps_if (pt_cmpR op_lt (pv 9) pe_int (nomark _))
        (pss_cons (ps_set (i := 10) scLaw.nd rfl (Or.inl rfl) (pcall c.some_ hr (pa_cons (pv 1) (pa_cons (pv 4) pa_nil))))
        (pss_cons (ps_set (i := 11) scLaw.nd rfl (Or.inl rfl) (pcall c.text hr (pa_cons (pv 1) (pa_cons (pv 2) pa_nil))))
        (pss_cons (ps_set (i := 12) scLaw.nd rfl (Or.inl rfl) (pixL (pv 11) pe_int))
        (C8.pss_cut (ps_if (pt_cmpR op_eq (pv 9) pe_int (nomark _))
          (pss_one (ps_set (i := 12) scLaw.nd rfl (Or.inl rfl) (pcall c.some_ hr (pa_cons (pv 1) (pa_cons (pv 4) pa_nil)))))
          pss_nil)
        (C8.pss_cut (ps_set (i := 13) scLaw.nd rfl (Or.inl rfl) (pcall c.behind hr (pa_cons (pixL (pv 6) (pe_un un_neg pe_int)) (pa_cons (pv 9) (pa_cons (pv 10) (pa_cons (pv 12) (pa_cons (pixL (pv 11) pe_int) (pa_cons (pv 3) pa_nil))))))))
        (pss_cons (ps_set (i := 14) scLaw.nd rfl (Or.inl rfl) (pixL (pv 13) pe_int))
        (C8.pss_cut (ps_if (pt_cmpR (op_eqD hr.units) (pv 14) (pe_lst pa_nil) (nomark _))
          (pss_cons (ps_set (i := 14) scLaw.nd rfl (Or.inl rfl) (pe_lst (pa_cons pe_non pa_nil)))
          (pss_cons (ps_expr (pe_bm PySem.F.plainAttrs_list PySem.F.slot_list_append PySem.F.type_list_append mt_append (pv 6) (pa_cons (pixL (pv 13) pe_int) pa_nil)))
          (pss_one (ps_set (i := 7) scLaw.nd rfl (Or.inl rfl) (pe_lst pa_nil)))))
          pss_nil)
        (pss_one (ps_if (pt_not (pt_truth (pcall c.same hr (pa_cons (pcall c.done hr (pa_cons (pv 5) (pa_cons (pv 9) (pa_cons (pv 10) (pa_cons (pv 12) pa_nil))))) (pa_cons (pv 14) pa_nil))) (by intro _; rfl)))
          (pss_one (ps_ret pe_bl))
          pss_nil)))))))))
        (pss_one (ps_if (pt_cmpR op_eq (pv 9) pe_int (nomark _))
          (C8.pss_cut (ps_if (pt_not (pt_truth (pcall c.same hr (pa_cons (pe_meth0 (pv 5) c.J.T.cl mu Fu (hr.mono (by decide)) bu .nil pass0) (pa_cons (pe_cmpR op_gt (pB1 call_len_seq c.S.len (pv 6)) pe_int (nomark _)) pa_nil))) (by intro _; rfl)))
            (pss_one (ps_ret pe_bl))
            pss_nil)
          (pss_one (ps_if (pt_cmpR op_gt (pB1 call_len_seq c.S.len (pv 6)) pe_int (nomark _))
            (pss_one (ps_expr (pe_bm PySem.F.plainAttrs_list PySem.F.slot_list_append PySem.F.type_list_append mt_append (pv 7) (pa_cons (pe_bm0 PySem.F.plainAttrs_list PySem.F.slot_list_pop PySem.F.type_list_pop mt_pop (pv 6)) pa_nil))))
            pss_nil)))
          (C8.pss_cut (ps_if (pt_not (pt_truth (pcall c.same hr (pa_cons (pe_meth0 (pv 5) c.J.T.cl mr Fr (hr.mono (by decide)) br .nil pass0) (pa_cons (pe_cmpR op_gt (pB1 call_len_seq c.S.len (pv 7)) pe_int (nomark _)) pa_nil))) (by intro _; rfl)))
            (pss_one (ps_ret pe_bl))
            pss_nil)
          (pss_one (ps_if (pt_cmpR op_gt (pB1 call_len_seq c.S.len (pv 7)) pe_int (nomark _))
            (pss_one (ps_expr (pe_bm PySem.F.plainAttrs_list PySem.F.slot_list_append PySem.F.type_list_append mt_append (pv 6) (pa_cons (pe_bm0 PySem.F.plainAttrs_list PySem.F.slot_list_pop PySem.F.type_list_pop mt_pop (pv 7)) pa_nil))))
            pss_nil))))))
      (pss_one (ps_if (pt_not (pt_truth (pcall c.stands hr (pa_cons (pv 5) (pa_cons (pv 2) (pa_cons (pv 6) (pa_cons (pv 3) pa_nil))))) (by intro _; rfl)))
        (pss_one (ps_ret pe_bl))
        pss_nil)))))
    (C8.pss_cut (ps_if (pt_not (pt_truth (pcall c.ear hr (pa_cons (pv 5) (pa_cons (pv 2) (pa_cons (pv 6) (pa_cons (pv 3) pa_nil))))) (by intro _; rfl)))
      (pss_one (ps_ret pe_bl))
      pss_nil)
    (C8.pss_cut (ps_for PassesOwn.never rfl (pi_range1 (by rfl) c.S.range (pa_cons (pB1 call_len_seq c.S.len (pv 7)) pa_nil)) (pg_name (i := 8) scLaw.nd rfl (Or.inl rfl))
      (pss_cons (ps_if (pt_not (pt_truth (pcall c.same hr (pa_cons (pe_meth0 (pv 5) c.J.T.cl mr Fr (hr.mono (by decide)) br .nil pass0) (pa_cons pe_bl pa_nil))) (by intro _; rfl)))
        (pss_one (ps_ret pe_bl))
        pss_nil)
      (pss_one (ps_expr (pe_bm PySem.F.plainAttrs_list PySem.F.slot_list_append PySem.F.type_list_append mt_append (pv 6) (pa_cons (pe_bm0 PySem.F.plainAttrs_list PySem.F.slot_list_pop PySem.F.type_list_pop mt_pop (pv 7)) pa_nil))))))
    (pss_one (ps_ret (pe_and (pcall c.same hr (pa_cons (pe_meth0 (pv 5) c.J.T.cl mr Fr (hr.mono (by decide)) br .nil pass0) (pa_cons pe_bl pa_nil))) (pe_one (pcall c.back hr (pa_cons (pv 5) (pa_cons (pv 2) (pa_cons (pv 6) (pa_cons (pv 3) pa_nil)))))))))))))))))))), ?_⟩
  refine ⟨_, rfl, a0, ns, rfl, hS, hn, hb, fun a pp H1 s1 S1 => ?_⟩
  refine ⟨_, rfl, a, 3, rfl, by omega, by omega, _, S1, fun al H2 hal la B2 S2 => ?_⟩
  obtain ⟨hA, h120⟩ := hal.ok2 (by omega)
  refine ⟨_, rfl, a, 5, rfl, by omega, by omega, _, S2, fun t H3 t0 t1 B3 S3 => ?_⟩
  obtain ⟨room, rfl⟩ : ∃ k : Nat, t = (k : Int) := ⟨t.toNat, by omega⟩
  have hroom : room ≤ 4 := by omega
  clear hS s1 S1 B2 S2 B3 t0 t1 hal la h120
  -- names
  refine ⟨fun σ' H' => ∃ (N : Addr) (nm : List (List Nat)), σ' = [some (.ref a0), some (.ref a), some (.str (S al)), some (.int (room : Int)), some (.ref N), none, none, none, none, none, none, none, none, none, none, none] ∧ StOk K H' a pp ∧ H' N = some (.lst (sgs nm)) ∧ nm.length = 3 ∧ (∀ n ∈ nm, NameOk n), ?_, ?_⟩
  · refine ⟨_, rfl, by decide, by decide, fun D hD => ?_⟩
    have nDa : D ≠ a := fun z => by
      obtain ⟨i', v', l', m', h9⟩ := S3.at_
      rw [← z, hD] at h9
      cases h9
    refine L2.lc_range (lo := 0) (n := 3) (fun i H' => StOk K H' a pp ∧ ∃ nm : List (List Nat), H' D = some (.lst (sgs nm)) ∧ nm.length = i ∧ (∀ n ∈ nm, NameOk n)) ⟨S3.mono (same_new hD _), [], upd_same, rfl, (fun n h => nomatch h)⟩ ?_ ?_
    · rintro i H4 hi ⟨S4, nm, hN, hl, hok⟩
      refine ⟨rfl, _, rfl, a, rfl, pp, S4, fun x H5 hx B5 S5 => ?_⟩
      have hN5 := B5 _ _ nDa hN
      refine ⟨_, hN5, small_lt (by rw [sgs_len]; omega), ?_, nm ++ [x], ?_, by rw [List.length_append, hl]; rfl, fun n hn => ?_⟩
      · obtain ⟨cs, i, v, l, m, X⟩ := S5
        have npD : pp ≠ D := fun z => by
          have h1 := X.c
          rw [z, hN5] at h1
          obtain ⟨cs0, _, _, _, _, Y⟩ := S3
          have h2 := Y.c
          rw [z, hD] at h2
          cases h2
        exact ⟨cs, i, v, l, m, by rw [upd_ne (Ne.symm nDa)]; exact X.h, by rw [upd_ne npD]; exact X.c, X.ne, X.b, X.n, X.i0, X.v0, X.m0⟩
      · rw [upd_same, sgs_app]
        rfl
      · rcases List.mem_append.mp hn with g | g
        · exact hok n g
        · rw [List.mem_singleton.mp g]; exact hx
    · rintro H4 ⟨S4, nm, hN, hl, hok⟩
      exact ⟨D, nm, rfl, S4, hN, hl, hok⟩
  rintro σ' H4 ⟨N, nm, rfl, S4, hN4, hn3, hnok⟩
  clear S3
  -- the journal
  refine ⟨fun σ' H' => ∃ j, σ' = [some (.ref a0), some (.ref a), some (.str (S al)), some (.int (room : Int)), some (.ref N), some (.ref j), none, none, none, none, none, none, none, none, none, none] ∧ Same H4 H' ∧ JrnAt H4 H' j CJ C CP al room [[]] [] 0, ?_, ?_⟩
  · refine ⟨_, rfl, _, rfl, fun x dx hx hdx hne => ?_⟩
    have sb : Same H4 (upd (upd H4 dx (.own x)) x (.ins CJ dx [])) := (same_new hdx (.own x)).trans (same_new (by rw [upd_ne (Ne.symm hne)]; exact hx) _)
    exact ⟨H4, x, dx, al, room, rfl, upd_same, hA, by omega, sb, hx, fun H' s' J' => ⟨rfl, x, rfl, s', J'⟩⟩
  rintro σ' H5 ⟨j, rfl, s5, J5⟩
  -- past, future
  refine ⟨Nat.zero_le _, fun e he => ⟨by show 1 ≤ sizeLine; decide, fun pl hpl => ?_⟩⟩
  refine ⟨fun σ' H' => ∃ fl G F, σ' = lawS a0 a al room N j pl fl none none none none none none none ∧ LI K G F H' a pp N pl fl j CJ C CP al room nm [[]] [] 0 [[]] [], ?_, ?_⟩
  · refine ⟨Nat.zero_le _, fun fl hfl => ?_⟩
    obtain ⟨G, F, I⟩ := LI.init S4 hN4 s5 J5 he hpl hfl
    exact ⟨fl, G, F, rfl, I⟩
  clear he hpl S4 s5 J5 hN4
  rintro σ' H6 ⟨fl, G, F, rfl, I6⟩
  -- it stands
  refine ⟨fun σ' H' => ∃ fl G F, σ' = lawS a0 a al room N j pl fl none none none none none none none ∧ LI K G F H' a pp N pl fl j CJ C CP al room nm [[]] [] 0 [[]] [], ?_, ?_⟩
  · refine ⟨_, rfl, _, rfl, _, rfl, _, rfl, F, j, pl, al, room, [[]], [], 0, rfl, I6.J, I6.pastH, fun H7 s7 => ⟨_, rfl, ?_⟩⟩
    refine ite2 (fun z => (by cases z)) (fun _ => ?_)
    have I7 := I6.same s7
    obtain ⟨jx, _, _, _, _, _, _, _, _, _, _, _, JJ, _⟩ := id I7.J
    refine ⟨_, rfl, j, CJ, jx, _, _, rfl, JJ.o, c.J.T.cl, c.J.T.nL, jf_letters _ _ _ _, _, rfl, _, _, .str (S al), .str (S al), rfl, .str _, .str _, trivial, fun b H8 s8 hb => ?_⟩
    have hb1 := hb.mpr rfl
    subst hb1
    refine ⟨_, rfl, ?_⟩
    refine ite2 (fun z => (by cases z)) (fun _ => ?_)
    exact ⟨fl, G, F, rfl, I7.same s8⟩
  clear I6
  rintro σ' H6 ⟨fl, G, F, rfl, I6⟩
  -- the deeds
  refine ⟨fun σ' H' => ∃ (fl : Addr) (G F : Hp) (B : List (List Ent)) (st : List Stp) (n : Nat) (x8 x9 x10 x11 x12 x13 x14 : Option V), σ' = lawS a0 a al room N j pl fl x8 x9 x10 x11 x12 x13 x14 ∧ LI K G F H' a pp N pl fl j CJ C CP al room nm B st n (B.take (n + 1)) (B.drop (n + 1)).reverse ∧ st.length ≤ 14, ?_, ?_⟩
  · obtain ⟨i6, v6, l6, m6, ea6⟩ := I6.S.at_
    refine ⟨_, rfl, a, 15, rfl, by omega, by omega, _, I6.S.mono I6.sF, fun m H7 m0 m1 B7 S7 => ⟨_, rfl, by omega, by omega, ?_⟩⟩
    obtain ⟨F7, I7⟩ := I6.draw B7 S7
    refine for_range (lo := 0) (n := m.toNat) (fun i σ' H' => ∃ (fl : Addr) (G F : Hp) (B : List (List Ent)) (st : List Stp) (n : Nat) (x8 x9 x10 x11 x12 x13 x14 : Option V), σ' = lawS a0 a al room N j pl fl x8 x9 x10 x11 x12 x13 x14 ∧ LI K G F H' a pp N pl fl j CJ C CP al room nm B st n (B.take (n + 1)) (B.drop (n + 1)).reverse ∧ st.length ≤ i)
      ⟨fl, G, F7, [[]], [], 0, _, _, _, _, _, _, _, rfl, I7, Nat.le_refl _⟩ ?_ (fun σ H' ⟨fl, G, F, B, st, n, x8, x9, x10, x11, x12, x13, x14, e, I, l⟩ => ⟨fl, G, F, B, st, n, x8, x9, x10, x11, x12, x13, x14, e, I, by omega⟩)
    clear I7 B7 S7 I6 ea6
    rintro i σ H8 hi ⟨fl, G, F, B, st, n, x8, x9, x10, x11, x12, x13, x14, rfl, I8, hst⟩
    -- kind
    refine ⟨fun σ' H' => ∃ (F : Hp) (k : Int) (x8 : Option V), σ' = lawS a0 a al room N j pl fl x8 (some (.int k)) x10 x11 x12 x13 x14 ∧ 0 ≤ k ∧ k ≤ 4 ∧ LI K G F H' a pp N pl fl j CJ C CP al room nm B st n (B.take (n + 1)) (B.drop (n + 1)).reverse, ?_, ?_⟩
    · refine ⟨by show 8 ≤ sizeLine; decide, fun L hL => ?_⟩
      have s9 := same_new hL (.lst [.int 0, .int 0, .int 0, .int 1, .int 2, .int 3, .int 3, .int 4])
      have hL9 : upd H8 L (.lst [.int 0, .int 0, .int 0, .int 1, .int 2, .int 3, .int 3, .int 4]) L = some (.lst [.int 0, .int 0, .int 0, .int 1, .int 2, .int 3, .int 3, .int 4]) := upd_same
      have I9 := I8.same s9
      have nLa : L ≠ a := fun z => by
        obtain ⟨i', v', l', m', h9⟩ := (I8.S.mono I8.sF).at_
        rw [← z, hL] at h9
        cases h9
      generalize upd H8 L (.lst [.int 0, .int 0, .int 0, .int 1, .int 2, .int 3, .int 3, .int 4]) = H9 at *
      refine ⟨_, rfl, a, 8, rfl, by omega, by omega, _, I9.S.mono I9.sF, fun u H10 u0 u1 B10 S10 => ?_⟩
      obtain ⟨F10, I10⟩ := I9.draw B10 S10
      have hk : ∃ k : Int, 0 ≤ k ∧ k ≤ 4 ∧ atI [V.int 0, .int 0, .int 0, .int 1, .int 2, .int 3, .int 3, .int 4] u = some (.int k) := by
        have c8 : u = 0 ∨ u = 1 ∨ u = 2 ∨ u = 3 ∨ u = 4 ∨ u = 5 ∨ u = 6 ∨ u = 7 := by omega
        rcases c8 with rfl | rfl | rfl | rfl | rfl | rfl | rfl | rfl
        · exact ⟨0, by decide, by decide, rfl⟩
        · exact ⟨0, by decide, by decide, rfl⟩
        · exact ⟨0, by decide, by decide, rfl⟩
        · exact ⟨1, by decide, by decide, rfl⟩
        · exact ⟨2, by decide, by decide, rfl⟩
        · exact ⟨3, by decide, by decide, rfl⟩
        · exact ⟨3, by decide, by decide, rfl⟩
        · exact ⟨4, by decide, by decide, rfl⟩
      obtain ⟨k, k0, k4, hat⟩ := hk
      exact ⟨L, _, _, _, rfl, rfl, SqL.of (B10 _ _ nLa hL9), hat, F10, k, _, rfl, k0, k4, I10⟩
    clear I8
    rintro σ' H9 ⟨F, k, y8, rfl, k0, k4, I9⟩
    -- the deed
    refine ⟨fun σ' H' => ∃ (fl : Addr) (G F : Hp) (B : List (List Ent)) (st : List Stp) (n : Nat) (x8 x9 x10 x11 x12 x13 x14 : Option V), σ' = lawS a0 a al room N j pl fl x8 x9 x10 x11 x12 x13 x14 ∧ LI K G F H' a pp N pl fl j CJ C CP al room nm B st n (B.take (n + 1)) (B.drop (n + 1)).reverse ∧ st.length ≤ i + 1, ?_, ?_⟩
    rotate_left
    · rintro σ' H10 ⟨fl, G, F, B, st, n, x8, x9, x10, x11, x12, x13, x14, rfl, I10, hst⟩
      refine ⟨_, rfl, _, rfl, _, rfl, _, rfl, F, j, pl, al, room, B, st, n, rfl, I10.J, I10.pastH, fun H11 s11 => ⟨_, rfl, ?_⟩⟩
      refine ite2 (fun z => (by cases z)) (fun _ => ?_)
      exact ⟨fl, G, F, B, st, n, x8, x9, x10, x11, x12, x13, x14, rfl, I10.same s11, hst⟩
    obtain ⟨jx, _, _, _, _, _, _, _, _, _, _, es, JJ, hes⟩ := id I9.J
    have hh := JJ.h
    have hlB := JJ.h.len
    have hnl := JJ.n
    have hjo := JJ.o
    clear JJ
    refine ⟨_, rfl, _, _, rfl, rfl, _, rfl, ?_⟩
    refine ite2 (fun h3 => ?_) (fun h3 => ?_)
    · have hk3 : k < 3 := of_decide_eq_true h3
      have htl : (B.take (n + 1)).length = n + 1 := by rw [List.length_take]; omega
      have hte : (B.take (n + 1))[n]? = some es := by rw [List.getElem?_take_of_lt (by omega)]; exact hes
      have bo := hh.ok hes
      clear hjo
      refine ⟨_, rfl, _, rfl, a, N, nm, rfl, I9.nH, hn3, hnok, pp, I9.S.mono I9.sF, fun nn H10 hfit B10 S10 => ?_⟩
      obtain ⟨F, I10⟩ := I9.draw B10 S10
      clear I9 B10 S10
      refine ⟨_, rfl, _, rfl, a, al, rfl, hA, pp, I10.S.mono I10.sF, fun tx r l ft H11 hrd htx B11 S11 hl hft nl nft => ?_⟩
      have nlf : l ≠ ft := fun z => by
        rw [z, hft] at hl
        cases r <;> cases hl
      obtain ⟨G, F, I11, gl11, gf11⟩ : ∃ G' F', LI K G' F' H11 a pp N pl fl j CJ C CP al room nm B st n (B.take (n + 1)) (B.drop (n + 1)).reverse ∧ G' l = some (.lst [.str (S tx), .ref ft]) ∧ G' ft = some (.lst (faultV r)) := by
        have gl0 : G l = none := I10.sG.free (I10.sF.free nl)
        have gf0 : G ft = none := I10.sG.free (I10.sF.free nft)
        have gl1 : upd G ft (.lst (faultV r)) l = none := by rw [upd_ne nlf]; exact gl0
        have na : ∀ {x : Addr} {o : HO}, G x = some o → x ≠ a := fun {x o} h z => by rw [z, I10.ga] at h; cases h
        obtain ⟨F', I'⟩ := I10.drawG (G' := upd (upd G ft (.lst (faultV r))) l (.lst [.str (S tx), .ref ft])) B11 S11 ((same_new gf0 _).trans (same_new gl1 _)) (fun x o hx => by
          by_cases h1 : x = l
          · rw [h1, upd_same] at hx
            rw [h1, hl]
            exact hx
          · rw [upd_ne h1] at hx
            by_cases h2 : x = ft
            · rw [h2, upd_same] at hx
              rw [h2, hft]
              exact hx
            · rw [upd_ne h2] at hx
              exact B11 _ _ (na hx) (I10.sF _ _ (I10.sG _ _ hx))) (fun x hx => by
          by_cases h1 : x = l
          · exact .inr (h1 ▸ nl)
          · rw [upd_ne h1] at hx
            by_cases h2 : x = ft
            · exact .inr (h2 ▸ nft)
            · rw [upd_ne h2] at hx
              exact .inl hx)
        exact ⟨_, F', I', upd_same, by rw [upd_ne (Ne.symm nlf), upd_same]⟩
      clear I10 B11 S11 hl hft nl nft nlf
      have hl11 := I11.sF _ _ (I11.sG _ _ gl11)
      refine ⟨_, rfl, l, _, _, _, rfl, rfl, SqL.of hl11, rfl, ?_⟩
      -- rest
      refine ⟨fun σ' H' => ∃ (F : Hp) (rest : List Nat), σ' = lawS a0 a al room N j pl fl y8 (some (.int k)) (some (.str (S nn))) (some (.ref l)) (some (.str (S rest))) x13 x14 ∧ (k ≠ 2 → rest = tx) ∧ (k = 2 → NmFit rest) ∧ LI K G F H' a pp N pl fl j CJ C CP al room nm B st n (B.take (n + 1)) (B.drop (n + 1)).reverse, ?_, ?_⟩
      · refine ⟨_, rfl, rfl, _, rfl, ?_⟩
        refine ite2 (fun h4 => ?_) (fun h4 => ?_)
        · refine ⟨_, rfl, _, rfl, a, N, nm, rfl, I11.nH, hn3, hnok, pp, I11.S.mono I11.sF, fun mm H12 hfit2 B12 S12 => ?_⟩
          obtain ⟨F, I12⟩ := I11.draw B12 S12
          exact ⟨F, mm, rfl, fun z => absurd (int_eq h4) z, fun _ => hfit2, I12⟩
        · exact ⟨F, tx, rfl, fun _ => rfl, fun z => absurd z (int_ne h4), I11⟩
      clear I11 hl11
      rintro σ' H12 ⟨F, rest, rfl, hr1, hr2, I12⟩
      obtain ⟨s, ks, ks2, fit, nms⟩ : ∃ s, KindOf G al ft k nn rest s ∧ KindS k nn rest s ∧ s.Fit al ∧ s.Nms := by
        have c3 : k = 0 ∨ k = 1 ∨ k = 2 := by omega
        rcases c3 with rfl | rfl | rfl
        · have := hr1 (by decide)
          subst this
          exact ⟨.note nn rest, ⟨rfl, rfl, rfl, r, hrd, gf11⟩, ⟨rfl, rfl, rfl⟩, ⟨hfit.1, htx, r, hrd⟩, hfit⟩
        · exact ⟨.strike nn, ⟨rfl, rfl⟩, ⟨rfl, rfl⟩, hfit.1, hfit⟩
        · have h2 := hr2 rfl
          exact ⟨.ren nn rest, ⟨rfl, rfl, rfl, h2⟩, ⟨rfl, rfl, rfl⟩, ⟨hfit.1, h2.1⟩, hfit, h2⟩
      have hl12 := I12.sF _ _ (I12.sG _ _ gl11)
      have hstp := fun (n' : List Nat) (e : stepE al room es s = .inl (.name n')) => flt_name nms e
      -- told
      refine ⟨fun σ' H' => ∃ (G F : Hp) (x d p : Addr), σ' = lawS a0 a al room N j pl fl y8 (some (.int k)) (some (.str (S nn))) (some (.ref l)) (some (.str (S rest))) (some (.ref x)) x14 ∧ LI K G F H' a pp N pl fl j CJ C CP al room nm B st n (B.take (n + 1)) (B.drop (n + 1)).reverse ∧ G x = some (.lst [.ref d, .ref p]) ∧ G d = some (.lst (resV (stepE al room es s))) ∧ (∀ es', stepE al room es s = .inr es' → Prs G p es'), ?_, ?_⟩
      · obtain ⟨xs, p2, h1, h2, h5⟩ := I12.lastP htl hte
        have hb := bo.l
        refine ⟨_, rfl, _, rfl, pl, _, _, _, rfl, rfl, SqL.of h1, h2, _, rfl, _, rfl, _, rfl, _, rfl, l, _, _, _, rfl, rfl, SqL.of hl12, rfl, _, rfl, G, p2, ft, k, nn, rest, al, room, es, s, rfl, I12.sG.trans I12.sF, h5, by omega, hfit, ks, fun G' H' x d p g hx hd hp => ?_⟩
        obtain ⟨F', I'⟩ := I12.grow g
        exact ⟨G', F', x, d, p, rfl, I', hx, hd, hp⟩
      clear I12 hl12 gl11 gf11 ks hr1 hr2 hrd htx
      rintro σ' H13 ⟨G, F, x, d, p, rfl, I13, hx, hd, hp⟩
      have up : ∀ {y : Addr} {o : HO}, G y = some o → H13 y = some o := fun h => I13.sF _ _ (I13.sG _ _ h)
      refine ⟨_, rfl, x, _, _, _, rfl, rfl, SqL.of (up hx), rfl, ?_⟩
      -- due
      refine ⟨fun σ' H' => ∃ (fl y : Addr) (G F : Hp) (Xs Ys : List (List Ent)), σ' = lawS a0 a al room N j pl fl y8 (some (.int k)) (some (.str (S nn))) (some (.ref l)) (some (.str (S rest))) (some (.ref x)) (some (.ref y)) ∧ LI K G F H' a pp N pl fl j CJ C CP al room nm B st n Xs Ys ∧
          ((∃ f, stepE al room es s = .inl f ∧ G y = some (.lst (dueV f)) ∧ Xs = B.take (n + 1) ∧ Ys = (B.drop (n + 1)).reverse) ∨ (∃ es', stepE al room es s = .inr es' ∧ G y = some (.lst [.non]) ∧ Xs = B.take (n + 1) ++ [es'] ∧ Ys = [])), ?_, ?_⟩
      · refine ⟨_, rfl, Nat.zero_le _, fun m hm => ?_⟩
        have sm := same_new hm (.lst [])
        have I14 := I13.same sm
        cases hst9 : stepE al room es s with
        | inl f =>
          rw [hst9] at hd
          refine ⟨dueD f, .list [], due_dp (sm _ _ (up hd)), .lst (SqL.of upd_same) .nil, due_sh (fun n' e => hstp n' (by rw [hst9, e])), by decide +kernel, _, rfl, ?_⟩
          rw [due_eq]
          refine ite2 (fun z => (by cases z)) (fun _ => ?_)
          exact ⟨fl, d, G, F, _, _, rfl, I14, .inl ⟨f, rfl, hd, rfl, rfl⟩⟩
        | inr es' =>
          rw [hst9] at hd
          have hp' := hp es' hst9
          refine ⟨.list [], .list [], .lst (SqL.of (sm _ _ (up hd))) .nil, .lst (SqL.of upd_same) .nil, by decide +kernel, by decide +kernel, _, rfl, ?_⟩
          refine ite2 (fun _ => ?_) (fun z => absurd rfl z)
          have up14 : ∀ {y : Addr} {o : HO}, G y = some o → upd H13 m (.lst []) y = some o := fun h => sm _ _ (up h)
          generalize upd H13 m (.lst []) = H14 at *
          refine ⟨by show 1 ≤ sizeLine; decide, fun y hy => ?_⟩
          have g15 := (Gro.start (I14.sG.trans I14.sF) (Same.refl H14)).add (o := .lst [.non]) hy
          obtain ⟨F15, I15⟩ := I14.grow g15
          have hy15 : upd G y (.lst [.non]) y = some (.lst [.non]) := upd_same
          have hp15 := hp'.mono g15.g
          have hx15 := g15.h _ _ (up14 hx)
          generalize upd G y (.lst [.non]) = G15 at *
          generalize upd H14 y (.lst [.non]) = H15 at *
          obtain ⟨zs, F16, z1, z2, I16⟩ := I15.pushP hp15
          refine ⟨_, rfl, .inl ⟨rfl, _, SqL.of z1⟩, _, rfl, x, _, _, _, rfl, rfl, SqL.of hx15, rfl, pl, _, _, rfl, rfl, z1, small_lt (by rw [z2, htl]; omega), ?_⟩
          refine ⟨Nat.zero_le _, fun z hz => ?_⟩
          exact ⟨z, y, G15, _, _, _, rfl, I16.newU hz, .inr ⟨es', rfl, hy15, rfl, rfl⟩⟩
      clear I13 hx hd hp up
      rintro σ' H14 ⟨fl, y, G, F, Xs, Ys, rfl, I14, hcase⟩
      refine ⟨_, rfl, _, rfl, _, rfl, _, rfl, F, j, k, nn, rest, al, room, B, st, n, es, s, rfl, ks2, I14.J, I14.sF, fit, by omega, hes, fun f hf => ?_, fun es' he ll H15 s15 J15 hll => ?_⟩
      · intro ll H15 s15 hll
        rcases hcase with ⟨f', hf', hy, rfl, rfl⟩ | ⟨es', he', _⟩
        · rw [hf] at hf'
          cases hf'
          have hy15 := s15 _ _ (I14.sF _ _ (I14.sG _ _ hy))
          refine ⟨_, rfl, .ref ll, .ref y, dueD f, dueD f, rfl, due_dp hll, due_dp hy15, due_okE f, fun b H16 s16 hb => ?_⟩
          have hb1 := hb.mpr rfl
          subst hb1
          refine ⟨_, rfl, ?_⟩
          refine ite2 (fun z => (by cases z)) (fun _ => ?_)
          exact ⟨fl, G, F, B, st, n, _, _, _, _, _, _, _, rfl, I14.same (s15.trans s16), by omega⟩
        · rw [hf] at he'
          cases he'
      · rcases hcase with ⟨f', hf', _⟩ | ⟨es2, he', hy, rfl, rfl⟩
        · rw [he] at hf'
          cases hf'
        · rw [he] at he'
          cases he'
          have hy15 := s15 _ _ (I14.sG _ _ hy)
          refine ⟨_, rfl, .ref ll, .ref y, .list [.none], .list [.none], rfl, .lst (SqL.of hll) (.cons .non .nil), .lst (SqL.of hy15) (.cons .non .nil), ⟨by show 1 ≤ 100000; decide, fun d hd => by rw [List.mem_singleton.mp hd]; trivial⟩, fun b H16 s16 hb => ?_⟩
          have hb1 := hb.mpr rfl
          subst hb1
          refine ⟨_, rfl, ?_⟩
          refine ite2 (fun z => (by cases z)) (fun _ => ?_)
          have I16 := (I14.jrn s15 J15).same s16
          have hlen : (B.take (n + 1) ++ [es']).length = n + 1 + 1 := by rw [List.length_append, htl]; rfl
          refine ⟨fl, G, F, B.take (n + 1) ++ [es'], st.take n ++ [s], n + 1, _, _, _, _, _, _, _, rfl, ?_, ?_⟩
          · have q1 : (B.take (n + 1) ++ [es']).take (n + 1 + 1) = B.take (n + 1) ++ [es'] := List.take_of_length_le (by omega)
            have q2 : (B.take (n + 1) ++ [es']).drop (n + 1 + 1) = [] := List.drop_of_length_le (by omega)
            rw [q1, q2]
            exact I16
          · rw [List.length_append, List.length_take]
            show min n st.length + 1 ≤ i + 1
            omega
    · have hk3 : ¬ k < 3 := fun z => h3 (decide_eq_true z)
      refine ⟨_, rfl, rfl, _, rfl, ?_⟩
      refine ite2 (fun h4 => ?_) (fun h4 => ?_)
      · -- undo
        have hx : ∃ xs, H9 pl = some (.lst xs) ∧ xs.length = n + 1 := by
          obtain ⟨xs, h1, h2⟩ := I9.pastH.len
          exact ⟨xs, h1, by rw [h2, List.length_take]; omega⟩
        refine ⟨fun σ' H' => ∃ m F, σ' = lawS a0 a al room N j pl fl y8 (some (.int k)) x10 x11 x12 x13 x14 ∧ (n = 0 ∧ m = 0 ∨ n = m + 1) ∧ LI K G F H' a pp N pl fl j CJ C CP al room nm B st m (B.take (n + 1)) (B.drop (n + 1)).reverse, ?_, ?_⟩
        · refine ⟨_, rfl, j, jx, _, rfl, hjo, jf_no _ _ _ _ (by decide +kernel), F, j, al, room, B, st, n, rfl, I9.J, I9.sF, fun hn0 => ?_, fun m hm H10 s10 J10 => ?_⟩
          · obtain ⟨xs, h1, h2⟩ := hx
            refine ⟨_, rfl, pl, _, rfl, .inl (SqL.of h1), _, _, rfl, rfl, ?_⟩
            refine ⟨_, _, .bool false, .bool _, rfl, .bl _, .bl _, trivial, fun b H11 s11 hb => ?_⟩
            have hb1 := hb.mpr (congrArg PyData.bool (decide_eq_false (by rw [h2]; omega)).symm)
            subst hb1
            refine ⟨_, rfl, ?_⟩
            refine ite2 (fun z => (by cases z)) (fun _ => ?_)
            subst hn0
            exact ⟨0, F, rfl, .inl ⟨rfl, rfl⟩, I9.same s11⟩
          · have I10 := I9.jrn s10 J10
            obtain ⟨xs, h1, h2⟩ := I10.pastH.len
            rw [List.length_take] at h2
            refine ⟨_, rfl, pl, _, rfl, .inl (SqL.of h1), _, _, rfl, rfl, ?_⟩
            refine ⟨_, _, .bool true, .bool _, rfl, .bl _, .bl _, trivial, fun b H11 s11 hb => ?_⟩
            have hb1 := hb.mpr (congrArg PyData.bool (decide_eq_true (by rw [h2]; omega)).symm)
            subst hb1
            refine ⟨_, rfl, ?_⟩
            refine ite2 (fun z => (by cases z)) (fun _ => ?_)
            exact ⟨m, F, rfl, .inr hm, I10.same s11⟩
        clear I9 hx
        rintro σ' H10 ⟨m, F, rfl, hm, I10⟩
        obtain ⟨xs, h1, h2⟩ := I10.pastH.len
        rw [List.length_take] at h2
        refine ⟨_, rfl, pl, _, rfl, .inl (SqL.of h1), _, _, rfl, rfl, _, rfl, ?_⟩
        rw [h2]
        refine ite2 (fun h5 => ?_) (fun h5 => ?_)
        · have h5 := of_decide_eq_true h5
          have hnm : n = m + 1 := by rcases hm with ⟨z, _⟩ | z <;> omega
          subst hnm
          rw [take_snoc hes] at I10
          obtain ⟨qs, g0, g2⟩ := I10.U
          have g1 := I10.sF _ _ g0
          obtain ⟨ps, p, e1, e2, I11⟩ := I10.popP
          obtain ⟨zs, F3, e3, e4, I12⟩ := I11.pushU e2
          refine ⟨_, rfl, .inl ⟨rfl, _, SqL.of g1⟩, _, rfl, .inl ⟨rfl, _, SqL.of e1⟩, pl, _, _, rfl, rfl, e1, snoc_get _ _, ?_⟩
          rw [List.dropLast_concat]
          refine ⟨fl, _, _, rfl, rfl, e3, small_lt (by rw [e4, List.length_reverse, List.length_drop]; omega), ?_⟩
          rw [← drop_snoc hes] at I12
          exact ⟨fl, G, F3, B, st, m, _, _, _, _, _, _, _, rfl, I12, by omega⟩
        · have hn0 : n = 0 ∧ m = 0 := by
            rcases hm with z | z
            · exact z
            · exact absurd (decide_eq_true (by omega)) h5
          obtain ⟨rfl, rfl⟩ := hn0
          exact ⟨fl, G, F, B, st, 0, _, _, _, _, _, _, _, rfl, I10, by omega⟩
      · -- redo
        obtain ⟨qs0, u0, u1⟩ := I9.U
        have hu9 := I9.sF _ _ u0
        have hql : qs0.length = st.length - n := by
          rw [Paired.length u1, List.length_reverse, List.length_drop]
          omega
        refine ⟨fun σ' H' => ∃ m F, σ' = lawS a0 a al room N j pl fl y8 (some (.int k)) x10 x11 x12 x13 x14 ∧ (n = st.length ∧ m = n ∨ n < st.length ∧ m = n + 1) ∧ LI K G F H' a pp N pl fl j CJ C CP al room nm B st m (B.take (n + 1)) (B.drop (n + 1)).reverse, ?_, ?_⟩
        · refine ⟨_, rfl, j, jx, _, rfl, hjo, jf_no _ _ _ _ (by decide +kernel), F, j, al, room, B, st, n, rfl, I9.J, I9.sF, fun hn0 => ?_, fun hm H10 s10 J10 => ?_⟩
          · refine ⟨_, rfl, fl, _, rfl, .inl (SqL.of hu9), _, _, rfl, rfl, ?_⟩
            refine ⟨_, _, .bool false, .bool _, rfl, .bl _, .bl _, trivial, fun b H11 s11 hb => ?_⟩
            have hb1 := hb.mpr (congrArg PyData.bool (decide_eq_false (by rw [List.length_map, hql]; omega)).symm)
            subst hb1
            refine ⟨_, rfl, ?_⟩
            refine ite2 (fun z => (by cases z)) (fun _ => ?_)
            exact ⟨n, F, rfl, .inl ⟨hn0, rfl⟩, I9.same s11⟩
          · have I10 := I9.jrn s10 J10
            have hu10 := I10.sF _ _ u0
            refine ⟨_, rfl, fl, _, rfl, .inl (SqL.of hu10), _, _, rfl, rfl, ?_⟩
            refine ⟨_, _, .bool true, .bool _, rfl, .bl _, .bl _, trivial, fun b H11 s11 hb => ?_⟩
            have hb1 := hb.mpr (congrArg PyData.bool (decide_eq_true (by rw [List.length_map, hql]; omega)).symm)
            subst hb1
            refine ⟨_, rfl, ?_⟩
            refine ite2 (fun z => (by cases z)) (fun _ => ?_)
            exact ⟨n + 1, F, rfl, .inr ⟨hm, rfl⟩, I10.same s11⟩
        clear I9 u0 u1 hu9 hql
        rintro σ' H10 ⟨m, F, rfl, hm, I10⟩
        obtain ⟨qs0, u0, u1⟩ := I10.U
        have hu9 := I10.sF _ _ u0
        have hql : qs0.length = st.length - n := by
          rw [Paired.length u1, List.length_reverse, List.length_drop]
          omega
        refine ⟨_, rfl, fl, _, rfl, .inl (SqL.of hu9), _, _, rfl, rfl, _, rfl, ?_⟩
        rw [List.length_map, hql]
        refine ite2 (fun h5 => ?_) (fun h5 => ?_)
        · have h5 := of_decide_eq_true h5
          have hnl : n < st.length := by omega
          have hmn : m = n + 1 := by rcases hm with ⟨z, _⟩ | ⟨_, z⟩ <;> omega
          subst hmn
          obtain ⟨e1, he1⟩ := hh.at_ (n := n + 1) (by omega)
          rw [drop_snoc he1] at I10
          obtain ⟨ps, g0, g2⟩ := I10.P
          have g1 := I10.sF _ _ g0
          obtain ⟨zs, p, f1, f2, I11⟩ := I10.popU
          obtain ⟨ws, F3, e3, e4, I12⟩ := I11.pushP f2
          refine ⟨_, rfl, .inl ⟨rfl, _, SqL.of g1⟩, _, rfl, .inl ⟨rfl, _, SqL.of f1⟩, fl, _, _, rfl, rfl, f1, snoc_get _ _, ?_⟩
          rw [List.dropLast_concat]
          refine ⟨pl, _, _, rfl, rfl, e3, small_lt (by rw [e4, List.length_take]; omega), ?_⟩
          rw [← take_snoc he1] at I12
          exact ⟨fl, G, F3, B, st, n + 1, _, _, _, _, _, _, _, rfl, I12, by omega⟩
        · have hmn : m = n := by
            rcases hm with z | z
            · exact z.2
            · exact absurd (decide_eq_true (by omega)) h5
          subst hmn
          exact ⟨fl, G, F, B, st, m, _, _, _, _, _, _, _, rfl, I10, by omega⟩
  clear I6
  rintro σ' H6 ⟨fl, G, F, B, st, n, x8, x9, x10, x11, x12, x13, x14, rfl, I6, hst⟩
  -- earlier books
  refine ⟨fun σ' H' => σ' = lawS a0 a al room N j pl fl x8 x9 x10 x11 x12 x13 x14 ∧ LI K G F H' a pp N pl fl j CJ C CP al room nm B st n (B.take (n + 1)) (B.drop (n + 1)).reverse, ?_, ?_⟩
  · refine ⟨_, rfl, _, rfl, _, rfl, _, rfl, F, j, pl, al, room, B, st, n, rfl, I6.J, I6.pastH, fun H7 s7 => ⟨_, rfl, ?_⟩⟩
    refine ite2 (fun z => (by cases z)) (fun _ => ?_)
    exact ⟨rfl, I6.same s7⟩
  clear I6
  rintro σ' H7 ⟨rfl, I7⟩
  -- all that is left is made again
  obtain ⟨_, _, _, _, _, _, _, _, _, _, _, es, JJ, hes⟩ := id I7.J
  have hh := JJ.h
  have hlB := JJ.h.len
  have hnl := JJ.n
  clear JJ
  refine ⟨fun σ' H' => ∃ x8 F, σ' = lawS a0 a al room N j pl fl x8 x9 x10 x11 x12 x13 x14 ∧ LI K G F H' a pp N pl fl j CJ C CP al room nm B st st.length (B.take (st.length + 1)) (B.drop (st.length + 1)).reverse, ?_, ?_⟩
  · obtain ⟨qs0, u0, u1⟩ := I7.U
    have hu9 := I7.sF _ _ u0
    have hql : qs0.length = st.length - n := by
      rw [Paired.length u1, List.length_reverse, List.length_drop]
      omega
    refine ⟨_, rfl, fl, _, rfl, .inl (SqL.of hu9), _, rfl, by rw [List.length_map, hql]; omega, by rw [List.length_map, hql]; omega, ?_⟩
    rw [List.length_map, hql]
    refine for_range (lo := 0) (n := st.length - n) (fun i σ' H' => ∃ x8 F, σ' = lawS a0 a al room N j pl fl x8 x9 x10 x11 x12 x13 x14 ∧ LI K G F H' a pp N pl fl j CJ C CP al room nm B st (n + i) (B.take (n + i + 1)) (B.drop (n + i + 1)).reverse) ⟨_, F, rfl, I7⟩ ?_ (fun σ H' ⟨x8, F, e, I⟩ => ⟨x8, F, e, by rw [show n + (st.length - n) = st.length by omega] at I; exact I⟩)
    clear u0 u1 hu9 hql I7
    rintro i σ H8 hi ⟨y8, F, rfl, I8⟩
    obtain ⟨jx, _, _, _, _, _, _, _, _, _, _, _, JJ, _⟩ := id I8.J
    have hlt : n + i < st.length := by omega
    refine ⟨_, rfl, j, jx, _, rfl, JJ.o, jf_no _ _ _ _ (by decide +kernel), F, j, al, room, B, st, n + i, rfl, I8.J, I8.sF, (fun z => by omega), fun _ H9 s9 J9 => ?_⟩
    refine ⟨_, _, .bool _, .bool _, rfl, .bl _, .bl _, trivial, fun b H10 s10 hb => ?_⟩
    have hb1 := hb.mpr rfl
    subst hb1
    refine ⟨_, rfl, ?_⟩
    refine ite2 (fun z => (by cases z)) (fun _ => ?_)
    have I10 := (I8.jrn s9 J9).same s10
    obtain ⟨e1, he1⟩ := hh.at_ (n := n + i + 1) (by omega)
    rw [drop_snoc he1] at I10
    obtain ⟨ps, g0, g2⟩ := I10.P
    have g1 := I10.sF _ _ g0
    obtain ⟨zs, p, f1, f2, I11⟩ := I10.popU
    obtain ⟨ws, F3, e3, e4, I12⟩ := I11.pushP f2
    refine ⟨_, rfl, .inl ⟨rfl, _, SqL.of g1⟩, _, rfl, .inl ⟨rfl, _, SqL.of f1⟩, fl, _, _, rfl, rfl, f1, snoc_get _ _, ?_⟩
    rw [List.dropLast_concat]
    refine ⟨pl, _, _, rfl, rfl, e3, small_lt (by rw [e4, List.length_take]; omega), ?_⟩
    rw [← take_snoc he1] at I12
    exact ⟨_, F3, rfl, I12⟩
  clear I7
  rintro σ' H8 ⟨y8, F, rfl, I8⟩
  obtain ⟨jx, _, _, _, _, _, _, _, _, _, _, _, JJ, _⟩ := id I8.J
  refine ⟨_, rfl, j, jx, _, rfl, JJ.o, jf_no _ _ _ _ (by decide +kernel), F, j, al, room, B, st, _, rfl, I8.J, I8.sF, fun _ => ?_, (fun z => absurd z (Nat.lt_irrefl _))⟩
  refine ⟨_, _, .bool _, .bool _, rfl, .bl _, .bl _, trivial, fun b H9 s9 hb => ?_⟩
  have hb1 := hb.mpr rfl
  subst hb1
  refine ⟨_, rfl, ?_⟩
  refine ite2 (fun _ => ?_) (fun z => absurd rfl z)
  have I9 := I8.same s9
  have hp := I9.past
  rw [List.take_of_length_le (by omega)] at hp
  exact ⟨_, rfl, _, rfl, _, rfl, _, rfl, F, j, pl, al, room, B, st, rfl, I9.J, I9.sF, hp, fun H' => q H'⟩
end
end W8

set_option Elab.async false
set_option linter.all false
set_option maxRecDepth 100000
set_option maxHeartbeats 4000000
namespace W8
open PySem PySem.Spec PyProof.Rows L2 L2E
abbrev sBRoom : Stmt := inClass (top 52) 1
theorem scBRoom : FnScope ["self"] ["self"] (defScope sBRoom) := ⟨rfl, rfl, rfl, by decide +kernel, rfl, by decide +kernel, by decide +kernel⟩
theorem ok_room {P : Program} {w : World} {K : PySem.W.Frag} {mg : Str → Option Value} {base : Heap} {g C : Addr} {fd : FuncData} (F : Fun K "room" "Book.room" sBRoom g fd) (T : BkT K mg C) : FnOk P w K mg base CX0 1 g fd ["self"] (getSp C "_room") := by
  obtain ⟨oc, od, kV', doc, pm, an, cdv, ct, osl, rfl, lk, hcd⟩ := F.ex
  exact fn_getter (N := ["self"]) lk hcd scBRoom rfl rfl T.cl T.nR
theorem bd_of {K : PySem.W.Frag} {w : World} {D : Addr} {es : Array DictEntry} {n : Nat} {t0 t1 t2 t3 t4 : Tok} (l : K.lookup D = some ⟨.type "dict", none, .dict es n, #[]⟩) (k : PySem.W.KeysLit w.params es.toList)
    (h0 : PySem.W.nsIn K D "(" = some (some (.int 0 t0))) (h1 : PySem.W.nsIn K D "|" = some (some (.int 1 t1))) (h2 : PySem.W.nsIn K D "&" = some (some (.int 2 t2))) (h3 : PySem.W.nsIn K D "+" = some (some (.int 3 t3))) (h4 : PySem.W.nsIn K D "~" = some (some (.int 4 t4))) :
    ∀ c b, RS.bind c = some b → KDct K w D (S [c]) (.int (b : Int)) := by
  intro c b h
  unfold RS.bind at h
  have c38 : ("&" : Str) = S [38] := by decide +kernel
  split at h
  · rename_i e; cases h; rw [e, ← c40]; exact ⟨es, n, _, l, k, h0, ⟨_, rfl⟩⟩
  split at h
  · rename_i e; cases h; rw [e, ← c124]; exact ⟨es, n, _, l, k, h1, ⟨_, rfl⟩⟩
  split at h
  · rename_i e; cases h; rw [e, ← c38]; exact ⟨es, n, _, l, k, h2, ⟨_, rfl⟩⟩
  split at h
  · rename_i e; cases h; rw [e, ← c43]; exact ⟨es, n, _, l, k, h3, ⟨_, rfl⟩⟩
  split at h
  · rename_i e; cases h; rw [e, ← c126]; exact ⟨es, n, _, l, k, h4, ⟨_, rfl⟩⟩
  cases h
theorem bi_fd {K : PySem.W.Frag} {f dt : Addr} {oc kV doc pm cdv ct dcl : Value} {od an ddx : Option Addr} {osl dsl : Array (Option Value)} {tk : Tok} {n : Nat} (lk : K.lookup f = some ⟨oc, od, .func (PySem.W.fnOf "__init__" "Book.__init__" (defArgs sBInit) (defBody sBInit) (defScope sBInit) (.ref dt) kV doc pm an cdv ct), osl⟩)
    (hcd : PySem.W.codeIn K cdv "Book.__init__" = true) (kp : PySem.W.keepIn K (.ref f) = true) (d : K.lookup dt = some ⟨dcl, ddx, .seq #[.int 20 tk] n, dsl⟩) :
    FunD K "__init__" "Book.__init__" (defArgs sBInit) (defBody sBInit) (defScope sBInit) [.int 20] [] f (PySem.W.fnOf "__init__" "Book.__init__" (defArgs sBInit) (defBody sBInit) (defScope sBInit) (.ref dt) kV doc pm an cdv ct) :=
  ⟨⟨oc, od, .ref dt, kV, doc, pm, an, cdv, ct, osl, rfl, lk, hcd, .inr ⟨by simp, dt, _, [.int 20 tk], n, rfl, d, rfl, .cons ⟨_, rfl⟩ .nil⟩, .inl rfl⟩, kp⟩
theorem bi_all {K : PySem.W.Frag} {f : Addr} {fd : FuncData} (F : FunD K "__init__" "Book.__init__" (defArgs sBInit) (defBody sBInit) (defScope sBInit) [.int 20] [] f fd) : Binds K fd ["self", "letters", "room"] [] := by
  obtain ⟨ds, v, b⟩ := F.binds1 (ps := ["self", "letters", "room"]) 3 1 (by simp) rfl fun T kV doc pm an cdv ct us its hu hi => match us, its, hu, hi with | [_, _, _], [_], _, _ => ⟨_, rfl, rfl⟩
  cases v
  exact b
theorem bi_dfl {K : PySem.W.Frag} {f : Addr} {fd : FuncData} (F : FunD K "__init__" "Book.__init__" (defArgs sBInit) (defBody sBInit) (defScope sBInit) [.int 20] [] f fd) : ∃ ds, Vals [V.int 20] ds ∧ Binds K fd ["self", "letters", "room"] ds :=
  F.binds1 (ps := ["self", "letters", "room"]) 2 0 (by simp) rfl fun T kV doc pm an cdv ct us its hu hi => match us, its, hu, hi with | [_, _], [_], _, _ => ⟨_, rfl, rfl⟩
theorem ji_fd {K : PySem.W.Frag} {f dt : Addr} {oc kV doc pm cdv ct dcl : Value} {od an ddx : Option Addr} {osl dsl : Array (Option Value)} {tk : Tok} {n : Nat} (lk : K.lookup f = some ⟨oc, od, .func (PySem.W.fnOf "__init__" "Journal.__init__" (defArgs sJInit) (defBody sJInit) (defScope sJInit) (.ref dt) kV doc pm an cdv ct), osl⟩)
    (hcd : PySem.W.codeIn K cdv "Journal.__init__" = true) (kp : PySem.W.keepIn K (.ref f) = true) (d : K.lookup dt = some ⟨dcl, ddx, .seq #[.int 20 tk] n, dsl⟩) :
    FunD K "__init__" "Journal.__init__" (defArgs sJInit) (defBody sJInit) (defScope sJInit) [.int 20] [] f (PySem.W.fnOf "__init__" "Journal.__init__" (defArgs sJInit) (defBody sJInit) (defScope sJInit) (.ref dt) kV doc pm an cdv ct) :=
  ⟨⟨oc, od, .ref dt, kV, doc, pm, an, cdv, ct, osl, rfl, lk, hcd, .inr ⟨by simp, dt, _, [.int 20 tk], n, rfl, d, rfl, .cons ⟨_, rfl⟩ .nil⟩, .inl rfl⟩, kp⟩
theorem ji_all {K : PySem.W.Frag} {f : Addr} {fd : FuncData} (F : FunD K "__init__" "Journal.__init__" (defArgs sJInit) (defBody sJInit) (defScope sJInit) [.int 20] [] f fd) : Binds K fd ["self", "letters", "room"] [] := by
  obtain ⟨ds, v, b⟩ := F.binds1 (ps := ["self", "letters", "room"]) 3 1 (by simp) rfl fun T kV doc pm an cdv ct us its hu hi => match us, its, hu, hi with | [_, _, _], [_], _, _ => ⟨_, rfl, rfl⟩
  cases v
  exact b
end W8

set_option Elab.async false
set_option linter.all false
set_option maxRecDepth 100000
set_option maxHeartbeats 4000000
/-! the facts of a top read by one Hook: defs by their rows, tables by their keys, the rest as decidable facts -/
namespace HH
open PySem PySem.Spec PyProof.Rows L2
/-! ### what a lookup gave -/
def refOf : Option (Option Value) → Addr
  | some (some (.ref a)) => a
  | _ => 0
def tokV : Value → Tok
  | .int _ t => t
  | .str _ t => t
  | _ => 0
def tokOf : Option (Option Value) → Tok
  | some (some v) => tokV v
  | _ => 0
def hdOf : Option (List Value) → Addr
  | some (.ref a :: _) => a
  | _ => 0
def tlOf : Option (List Value) → List Value
  | some (_ :: r) => r
  | _ => []
def adOf : Value → Addr
  | .ref a => a
  | _ => 0
section
variable (K : PySem.W.Frag)
def ob (a : Addr) : Obj := (K.lookup a).getD default
def fdO (a : Addr) : FuncData := match (ob K a).data with
  | .func fd => fd
  | _ => default
def cdO (a : Addr) : ClassData := match (ob K a).data with
  | .cls cd => cd
  | _ => default
def fsO (a : Addr) : Array Value := match (ob K a).data with
  | .fields vs => vs
  | _ => #[]
def sqO (a : Addr) : Array Value := match (ob K a).data with
  | .seq vs _ => vs
  | _ => #[]
def sqN (a : Addr) : Nat := match (ob K a).data with
  | .seq _ n => n
  | _ => 0
def ccO (a : Addr) : Addr := match (fdO K a).closure with
  | (_, c) :: _ => c
  | _ => 0
end
/-! ### functions -/
def isNon : Value → Bool
  | .none => true
  | _ => false
theorem isNon_ok {v : Value} (h : isNon v = true) : v = .none := by
  cases v with
  | none => rfl
  | _ => cases h
/-- name, qualified name, parameters, body, scope, globals, closure names, no defaults, built-ins -/
abbrev FnN : Type := Option (Str × Str × Arguments × FuncBody × Scope × Addr × List Str × Bool × Addr)
def fnN (K : PySem.W.Frag) (a : Addr) : FnN := match K.lookup a with
  | some ⟨_, _, .func fd, _⟩ => some (fd.name, fd.qualname, fd.params, fd.body, fd.scope, fd.globals, fd.closure.map (·.1), isNon fd.defaults, fd.builtins)
  | _ => none
def rowN (n q : Str) (st : Stmt) (cl : List Str) (b : Bool) : FnN := some (n, q, defArgs st, .stmts (defBody st), defScope st, mainGlobals, cl, b, builtinsNs)
section
variable {K : PySem.W.Frag} {a : Addr} {n q : Str} {st : Stmt}
theorem fn_at {cl : List Str} {b : Bool} (e : fnN K a = rowN n q st cl b) : K.lookup a = some ⟨(ob K a).cls, (ob K a).dict, .func (fdO K a), (ob K a).slots⟩ ∧ (fdO K a).name = n ∧ (fdO K a).qualname = q ∧ (fdO K a).params = defArgs st ∧
    (fdO K a).body = .stmts (defBody st) ∧ (fdO K a).scope = defScope st ∧ (fdO K a).globals = mainGlobals ∧ (fdO K a).closure.map (·.1) = cl ∧ isNon (fdO K a).defaults = b ∧ (fdO K a).builtins = builtinsNs := by
  unfold fnN at e
  cases h : K.lookup a with
  | none =>
    rw [h] at e
    cases e
  | some o =>
    obtain ⟨oc, od, dt, sl⟩ := o
    rw [h] at e
    cases dt with
    | func fd =>
      have e2 : (some (fd.name, fd.qualname, fd.params, fd.body, fd.scope, fd.globals, fd.closure.map (·.1), isNon fd.defaults, fd.builtins) : FnN) = some (n, q, defArgs st, .stmts (defBody st), defScope st, mainGlobals, cl, b, builtinsNs) := e
      have eo : ob K a = ⟨oc, od, .func fd, sl⟩ := by
        unfold ob
        rw [h]
        rfl
      have ef : fdO K a = fd := by
        unfold fdO
        rw [eo]
      rw [ef, eo]
      simp only [Option.some.injEq, Prod.mk.injEq] at e2
      obtain ⟨h1, h2, h3, h4, h5, h6, h7, h8, h9⟩ := e2
      exact ⟨rfl, h1, h2, h3, h4, h5, h6, h7, h8, h9⟩
    | _ => cases e
theorem fn_l (e : fnN K a = rowN n q st [] true) : K.lookup a = some ⟨(ob K a).cls, (ob K a).dict, .func (PySem.W.fnOf n q (defArgs st) (defBody st) (defScope st) .none (fdO K a).kwdefaults (fdO K a).doc (fdO K a).pyModule (fdO K a).annotations (fdO K a).code (fdO K a).closureTuple), (ob K a).slots⟩ := by
  obtain ⟨h0, h1, h2, h3, h4, h5, h6, h7, h8, h9⟩ := fn_at e
  rw [h0]
  generalize fdO K a = fd at h1 h2 h3 h4 h5 h6 h7 h8 h9 ⊢
  obtain ⟨n1, n2, n3, n4, n5, n6, n7, n8, n9, n10, n11, n12, n13, n14, n15⟩ := fd
  dsimp only at h1 h2 h3 h4 h5 h6 h7 h8 h9
  have h10 := isNon_ok h8
  have h11 := List.map_eq_nil_iff.mp h7
  subst h1 h2 h3 h4 h5 h6 h9 h10 h11
  rfl
theorem fn_d (e : fnN K a = rowN n q st [] false) {dt : Addr} (d : (fdO K a).defaults = .ref dt) : K.lookup a = some ⟨(ob K a).cls, (ob K a).dict, .func (PySem.W.fnOf n q (defArgs st) (defBody st) (defScope st) (.ref dt) (fdO K a).kwdefaults (fdO K a).doc (fdO K a).pyModule (fdO K a).annotations (fdO K a).code (fdO K a).closureTuple), (ob K a).slots⟩ := by
  obtain ⟨h0, h1, h2, h3, h4, h5, h6, h7, h8, h9⟩ := fn_at e
  rw [h0]
  generalize fdO K a = fd at d h1 h2 h3 h4 h5 h6 h7 h8 h9 ⊢
  obtain ⟨n1, n2, n3, n4, n5, n6, n7, n8, n9, n10, n11, n12, n13, n14, n15⟩ := fd
  dsimp only at d h1 h2 h3 h4 h5 h6 h7 h8 h9
  have h11 := List.map_eq_nil_iff.mp h7
  subst h1 h2 h3 h4 h5 h6 h9 d h11
  rfl
theorem fn_x (e : fnN K a = rowN n q st ["__class__"] true) {cda : Addr} (kw : (fdO K a).kwdefaults = .none) (c : (fdO K a).code = .ref cda) : K.lookup a = some ⟨(ob K a).cls, (ob K a).dict, .func (PySem.W.ksFn n q (defArgs st) (defBody st) (defScope st) .none .none (fdO K a).doc (fdO K a).pyModule (fdO K a).annotations (.ref cda) (fdO K a).closureTuple (ccO K a)), (ob K a).slots⟩ := by
  obtain ⟨h0, h1, h2, h3, h4, h5, h6, h7, h8, h9⟩ := fn_at e
  have h12 : ccO K a = match (fdO K a).closure with
    | (_, c) :: _ => c
    | _ => 0 := rfl
  rw [h0, h12]
  generalize fdO K a = fd at kw c h1 h2 h3 h4 h5 h6 h7 h8 h9 ⊢
  obtain ⟨n1, n2, n3, n4, n5, n6, n7, n8, n9, n10, n11, n12, n13, n14, n15⟩ := fd
  dsimp only at kw c h1 h2 h3 h4 h5 h6 h7 h8 h9 ⊢
  have h10 := isNon_ok h8
  subst h1 h2 h3 h4 h5 h6 h9 h10 kw c
  cases n7 with
  | nil => cases h7
  | cons p r =>
    obtain ⟨x, cc⟩ := p
    have h13 : x :: r.map (·.1) = (["__class__"] : List Str) := h7
    injection h13 with h14 h15
    have h16 := List.map_eq_nil_iff.mp h15
    subst h14 h16
    rfl
end
/-! ### other objects -/
def isFs (K : PySem.W.Frag) (a : Addr) : Bool := match K.lookup a with
  | some ⟨_, _, .fields _, _⟩ => true
  | _ => false
def isSq (K : PySem.W.Frag) (a : Addr) : Bool := match K.lookup a with
  | some ⟨_, _, .seq _ _, _⟩ => true
  | _ => false
def isCell (K : PySem.W.Frag) (a E : Addr) : Bool := match K.lookup a with
  | some ⟨_, _, .cell (some v), _⟩ => decide (v = .ref E)
  | _ => false
/-- an exception class: of type, with a dict, no __del__, its mro begins with itself, made by ValueError's -/
def isXc (K : PySem.W.Frag) (E : Addr) (id : String) : Bool := match K.lookup E with
  | some ⟨t, _, .cls cd, sl⟩ => decide (t = .type "type") && (cd.hasDict && (!cd.hasDel && (decide (cd.mro.head? = some (.ref E)) && (decide (sl.size = 6) && decide (sl.toList[4]? = some (some (.builtin id)))))))
  | _ => false
section
variable {K : PySem.W.Frag} {a : Addr}
theorem fs_l (h : isFs K a = true) : K.lookup a = some ⟨(ob K a).cls, (ob K a).dict, .fields (fsO K a), (ob K a).slots⟩ := by
  unfold isFs at h
  cases q : K.lookup a with
  | none =>
    rw [q] at h
    cases h
  | some o =>
    obtain ⟨oc, od, dt, sl⟩ := o
    rw [q] at h
    have eo : ob K a = ⟨oc, od, dt, sl⟩ := by
      unfold ob
      rw [q]
      rfl
    unfold fsO
    rw [eo]
    cases dt with
    | fields vs => rfl
    | _ => cases h
theorem sq_l (h : isSq K a = true) : K.lookup a = some ⟨(ob K a).cls, (ob K a).dict, .seq (sqO K a) (sqN K a), (ob K a).slots⟩ := by
  unfold isSq at h
  cases q : K.lookup a with
  | none =>
    rw [q] at h
    cases h
  | some o =>
    obtain ⟨oc, od, dt, sl⟩ := o
    rw [q] at h
    have eo : ob K a = ⟨oc, od, dt, sl⟩ := by
      unfold ob
      rw [q]
      rfl
    unfold sqO sqN
    rw [eo]
    cases dt with
    | seq vs n => rfl
    | _ => cases h
theorem sq_e {L : Array Value} (h : isSq K a = true) (e : sqO K a = L) : K.lookup a = some ⟨(ob K a).cls, (ob K a).dict, .seq L (sqN K a), (ob K a).slots⟩ := by
  rw [← e]
  exact sq_l h
theorem cell_l {E : Addr} (h : isCell K a E = true) : K.lookup a = some ⟨(ob K a).cls, (ob K a).dict, .cell (some (.ref E)), (ob K a).slots⟩ := by
  unfold isCell at h
  cases q : K.lookup a with
  | none =>
    rw [q] at h
    cases h
  | some o =>
    obtain ⟨oc, od, dt, sl⟩ := o
    rw [q] at h
    have eo : ob K a = ⟨oc, od, dt, sl⟩ := by
      unfold ob
      rw [q]
      rfl
    rw [eo]
    cases dt with
    | cell v =>
      cases v with
      | none => cases h
      | some v =>
        have e : v = .ref E := of_decide_eq_true h
        rw [e]
    | _ => cases h
def k_ (K : PySem.W.Frag) (E : Addr) (i : Nat) : Option Value := ((ob K E).slots.toList[i]?).getD none
theorem six {α : Type} {l : List (Option α)} {v : Option α} (h : l.length = 6) (h4 : l[4]? = some v) : l = [(l[0]?).getD none, (l[1]?).getD none, (l[2]?).getD none, (l[3]?).getD none, v, (l[5]?).getD none] := by
  match l, h with
  | [a, b, c, d, e, f], _ =>
    have : e = v := Option.some.inj h4
    rw [this]
    rfl
theorem xc_l {E : Addr} {id : String} (h : isXc K E id = true) : K.lookup E = some (excClassObj (cdO K E).name (cdO K E).qualname E (cdO K E).ns (cdO K E).bases (cdO K E).mro.tail true (cdO K E).slotNames (cdO K E).subclasses (cdO K E).abstract (cdO K E).collection (ob K E).dict (k_ K E 0) (k_ K E 1) (k_ K E 2) (k_ K E 3) (k_ K E 5) id) := by
  unfold isXc at h
  cases q : K.lookup E with
  | none =>
    rw [q] at h
    cases h
  | some o =>
    obtain ⟨oc, od, dt, sl⟩ := o
    rw [q] at h
    have eo : ob K E = ⟨oc, od, dt, sl⟩ := by
      unfold ob
      rw [q]
      rfl
    unfold cdO k_
    rw [eo]
    cases dt with
    | cls cd =>
      obtain ⟨h1, h⟩ := He.ba h
      obtain ⟨h2, h⟩ := He.ba h
      obtain ⟨h3, h⟩ := He.ba h
      obtain ⟨h4, h⟩ := He.ba h
      obtain ⟨h5, h6⟩ := He.ba h
      have e1 : oc = .type "type" := of_decide_eq_true h1
      have e4 : cd.mro.head? = some (.ref E) := of_decide_eq_true h4
      have e5 : sl.size = 6 := of_decide_eq_true h5
      have e6 : sl.toList[4]? = some (some (.builtin id)) := of_decide_eq_true h6
      have es : sl = #[(sl.toList[0]?).getD none, (sl.toList[1]?).getD none, (sl.toList[2]?).getD none, (sl.toList[3]?).getD none, some (.builtin id), (sl.toList[5]?).getD none] :=
        Array.toList_inj.mp (six (by rw [Array.length_toList, e5]) e6)
      obtain ⟨n1, n2, n3, n4, n5, n6, n7, n8, n9, n10, n11⟩ := cd
      have e2 : n6 = true := h2
      have e3 : n11 = false := by
        cases n11 with
        | false => rfl
        | true => cases h3
      subst e1 e2 e3
      cases n3 with
      | nil => cases e4
      | cons c bm =>
        have e7 : c = .ref E := Option.some.inj e4
        subst e7
        show some (⟨_, _, _, sl⟩ : Obj) = _
        generalize sl.toList = L at es
        subst es
        rfl
    | _ => cases h
theorem ci_l {E : Addr} (h : (PySem.W.clsIn K E).isSome = true) : PySem.W.clsIn K E = some ((PySem.W.clsIn K E).getD default) := by
  cases q : PySem.W.clsIn K E with
  | none =>
    rw [q] at h
    cases h
  | some c => rfl
end
/-! ### the part of the heap that is looked at -/
def refsH (o : Obj) : List Addr := match o.data with
  | .seq its _ => its.toList.flatMap He.refV
  | .dict es _ => es.toList.flatMap fun e => He.refV e.val
  | .func fd => He.refV fd.code ++ (He.refV fd.defaults ++ (He.refV fd.kwdefaults ++ fd.closure.map (·.2)))
  | .cls cd => [cd.ns]
  | .fields vs => (match decide (o.cls = .type "code") with
    | true => []
    | false => vs.toList.flatMap He.refV)
  | _ => []
def forceL {α : Type} : List Addr → (List Addr → α) → α
  | [], k => k []
  | a :: r, k => HandSHeadRun.frNat a fun a => forceL r fun r => k (a :: r)
theorem forceL_eq {α : Type} : ∀ (l : List Addr) (k : List Addr → α), forceL l k = k l
  | [], _ => rfl
  | a :: r, k => by
    show (HandSHeadRun.frNat a fun a => forceL r fun r => k (a :: r)) = _
    rw [HandSHeadRun.frNat_eq, forceL_eq r]
def lvl (g : Addr → Option Obj) (as : List Addr) : List Addr := as.flatMap fun a => match g a with
  | some o => refsH o
  | none => []
def roots (g : Addr → Option Obj) (names : List Str) : List Addr := names.map fun x => refOf (PySem.W.nsIn (He.frG g [mainGlobals]) mainGlobals x)
abbrev AlH : Type := List FnN × List (Option (List (Option (Str × Int)))) × Bool
section
variable (fs : PySem.W.Frag → List Addr) (ts : List He.Tab) (ex : PySem.W.Frag → Bool)
def obsK (K : PySem.W.Frag) : AlH := ((fs K).map (fnN K), ts.map (fun t => He.dicW K (t.1 K)), ex K)
def obsH (names : List Str) (g : Addr → Option Obj) : AlH :=
  forceL (roots g names) fun l1 => forceL (lvl g l1) fun l2 => forceL (lvl g l2) fun l3 => forceL (lvl g l3) fun l4 => forceL (lvl g l4) fun l5 =>
    obsK fs ts ex (He.frG g (mainGlobals :: cStatics :: (l1 ++ (l2 ++ (l3 ++ (l4 ++ l5))))))
theorem obsH_ex (names : List Str) (g : Addr → Option Obj) : ∃ as, obsH fs ts ex names g = obsK fs ts ex (He.frG g as) := by
  unfold obsH
  rw [forceL_eq, forceL_eq, forceL_eq, forceL_eq, forceL_eq]
  exact ⟨_, rfl⟩
def valH (vs : List FnN) (w : World) : AlH := (vs, ts.map (fun t => some (He.keysIn w.params t.2)), true)
def hookH (names : List Str) (vs : List FnN) : PySem.W.Hook where
  α := AlH
  obs := fun s => obsH fs ts ex names s.heap.get?
  val := fun w => valH ts vs w
  says := fun w h => ∃ K : PySem.W.Frag, K.In h ∧ obsK fs ts ex K = valH ts vs w
  of := fun _ s e => by
    obtain ⟨as, h⟩ := obsH_ex fs ts ex names s.heap.get?
    exact ⟨_, He.frG_in, by rw [← h]; exact e⟩
  keeps := fun _ _ _ ⟨K, hK, c⟩ k => ⟨K, PySem.W.Frag.In.keeps hK k, c⟩
theorem obsH_eq {names : List Str} {vs : List FnN} {g : Addr → Option Obj} {s : Shared} (h : ∀ a, g a = s.heap.get? a) : obsH fs ts ex names g = (hookH fs ts ex names vs).obs s := by
  have e : g = s.heap.get? := funext h
  rw [e] <;> rfl
end
section
variable {fs : PySem.W.Frag → List Addr} {ts : List He.Tab} {ex : PySem.W.Frag → Bool} {vs : List FnN} {w : World} {K : PySem.W.Frag}
theorem says_fn (c : obsK fs ts ex K = valH ts vs w) (i : Nat) {a : Addr} {v : FnN} (ha : (fs K)[i]? = some a := by rfl) (hv : vs[i]? = some v := by rfl) : fnN K a = v := by
  have e : (fs K).map (fnN K) = vs := congrArg (fun z : AlH => z.1) c
  have e2 : ((fs K).map (fnN K))[i]? = vs[i]? := by rw [e]
  rw [List.getElem?_map, ha, hv] at e2
  exact Option.some.inj e2
theorem says_tab (c : obsK fs ts ex K = valH ts vs w) (i : Nat) {t : He.Tab} (h : ts[i]? = some t := by rfl) : ∃ es n, KDict K w (t.1 K) es n := by
  have e : ts.map (fun t => He.dicW K (t.1 K)) = ts.map fun t => some (He.keysIn w.params t.2) := congrArg (fun z : AlH => z.2.1) c
  have e2 : (ts.map fun t => He.dicW K (t.1 K))[i]? = (ts.map fun t => some (He.keysIn w.params t.2))[i]? := by rw [e]
  rw [List.getElem?_map, List.getElem?_map, h] at e2
  exact He.dicW_ok (Option.some.inj e2)
theorem says_ex (c : obsK fs ts ex K = valH ts vs w) : ex K = true := congrArg (fun z : AlH => z.2.2) c
end
/-- a law's end over such a head, with the script's bits -/
theorem walk_ofBE {l : PySem.W.OpenLaw} {n k : Nat} {q : Program} {loose : List Str} {XP : (Str → Option Value) → Heap → Prop} {YP : World → Heap → Prop} {d : DefRec} {CX : CXT} {x : Str}
    (hn : l.most = some n) (hn2 : n ≤ sizeLine) (hdf : d.params.defaults = []) (hr : Room k callerA)
    (F : ∀ (w : World) (mg : Str → Option Value) (fa : Addr) (h : Heap), YP w h → h.Ns mainGlobals mg → mg d.name = some (.ref fa) →
      ∃ (K : PySem.W.Frag) (fd : FuncData) (sp : Sp), K.In h ∧ (∀ (s : Shared) (u : Value), BindsTo s fd ⟨[u], []⟩ [(x, u)]) ∧
        (∀ (H : Hp) (a : Addr) (ns : List Int), ns.length ≤ n → (∀ z ∈ ns, Builtin.Int.intBits z ≤ 1048576) → Only H → SqL K H a (ns.map V.int) → sp [.ref a] H (fun v _ => v = .bl true) fun _ _ _ => False) ∧
        ∀ base : Heap, K.In base → base.Ns mainGlobals mg → FnOk l.prog w K mg base CX k fa fd [x] sp)
    (hCX : ∀ (H : Hp) (s : Shared) (e : Value) (s' : Shared), CX [] H s (fun _ _ _ => False) e s' → False) :
    PySem.W.WalkO q loose XP YP l.row.toRowW d [] (fun f vs => PySem.call f vs) := by
  refine Att.attach_callB hn hdf fun w s₀ s₁ mg mb fa o pm cd doc a vs ns G Y ho hd hcd hmg hobj hints hlen hbits hg => ?_
  obtain ⟨K, fd, sp, KX, hb, hsp, hF⟩ := F w mg fa _ Y G.T.g hmg
  exact law_call KX G.T.g G.T.b G.T.builtins G.T.nolimit hg hobj hints (Nat.le_trans hlen hn2) hr hF hb (fun H hO hS => hsp H a ns hlen hbits hO hS) fun H e s' => hCX H s₁ e s'
end HH

set_option Elab.async false
set_option linter.all false
set_option maxRecDepth 100000
set_option maxHeartbeats 4000000
set_option pp.maxSteps 60
namespace W8
open PySem PySem.Spec PyProof.Rows L2 L2E
def cAt (x : Addr) (es : List Addr) (i : Nat) : Addr := es.getD i x
theorem kit_ve {K : PySem.W.Frag} {D : Addr} (h : PySem.W.subIn K (.ref D) (.type "ValueError") = some true) : PySem.W.kitOne K (.ref D) (.type "ValueError") = some true := by
  unfold PySem.W.kitOne
  rw [if_neg (by intro z; cases (beq_iff_eq.mp z))]
  show (if PySem.W.kitMeta "ValueError" = true then PySem.W.subIn K (.ref D) (.type "ValueError") else none) = some true
  rw [if_pos (by decide +kernel)]
  exact h
theorem kit_ref {K : PySem.W.Frag} {D C : Addr} {b : Bool} (hd : PySem.W.hasDictIn K C = true) (ht : PySem.W.typeIn K (.ref C) = some (.type "type")) (h : PySem.W.subIn K (.ref D) (.ref C) = some b) (self : PySem.W.subIn K (.ref D) (.ref D) = some true) : PySem.W.kitOne K (.ref D) (.ref C) = some b := by
  unfold PySem.W.kitOne
  by_cases e : (Value.ref D == Value.ref C) = true
  · rw [if_pos e]
    have e2 : D = C := by simpa using e
    subst e2
    rw [self] at h
    exact h
  · rw [if_neg e]
    obtain ⟨cd, hc, _⟩ := PySem.W.any_some hd
    show (if ((PySem.W.clsIn K C).isSome && PySem.W.typeIn K (.ref C) == some (.type "type")) = true then PySem.W.subIn K (.ref D) (.ref C) else none) = some b
    rw [if_pos (by rw [hc, ht]; rfl)]
    exact h
theorem all_mk {l : PySem.W.OpenLaw} {w : World} {K : PySem.W.Frag} {h : Heap} {mg : Str → Option Value} (X : K.In h) (G : h.Ns mainGlobals mg)
    {t_ML t_SM t_MT t_MN t_MM t_SB t_DG u_P_MOST_ROWS : Tok}
    {E_1 E_2 E_3 E_4 E_5 E_6 E_7 E_8 E_9 E_10 E_11 E_12 E_13 E_14 E_15 E_16 E_17 E_18 : Addr}
    {nm_8 q_8 qu_8 ms_8 fi_8 : Str}
    {N_8 cc_8 cda_8 I_8 : Addr}
    {bs_8 bm_8 sub_8 : List Value}
    {sn_8 : List Str}
    {ab_8 : Bool}
    {col_8 : Option Bool}
    {dd_8 xd_8 xa_8 cdd_8 cld_8 : Option Addr}
    {k0_8 k1_8 k2_8 k3_8 k5_8 : Option Value}
    {xoc_8 xdoc_8 xpm_8 xct_8 ccl_8 cl_8 : Value}
    {j_8 : Nat}
    {p0_8 p1_8 p2_8 p3_8 p4_8 p5_8 q1_8 q2_8 q3_8 q4_8 r1_8 r2_8 : Pos}
    {tf_8 : Tok}
    {cdD_8 : ClassData}
    {xsl_8 ccs_8 csl_8 : Array (Option Value)}
    {vs_8 : Array Value}
    {nm_11 q_11 qu_11 ms_11 fi_11 : Str}
    {N_11 cc_11 cda_11 I_11 : Addr}
    {bs_11 bm_11 sub_11 : List Value}
    {sn_11 : List Str}
    {ab_11 : Bool}
    {col_11 : Option Bool}
    {dd_11 xd_11 xa_11 cdd_11 cld_11 : Option Addr}
    {k0_11 k1_11 k2_11 k3_11 k5_11 : Option Value}
    {xoc_11 xdoc_11 xpm_11 xct_11 ccl_11 cl_11 : Value}
    {j_11 : Nat}
    {p0_11 p1_11 p2_11 p3_11 p4_11 p5_11 q1_11 q2_11 q3_11 q4_11 r1_11 r2_11 : Pos}
    {tf_11 : Tok}
    {cdD_11 : ClassData}
    {xsl_11 ccs_11 csl_11 : Array (Option Value)}
    {vs_11 : Array Value}
    {nm_12 q_12 qu_12 ms_12 fi_12 : Str}
    {N_12 cc_12 cda_12 I_12 : Addr}
    {bs_12 bm_12 sub_12 : List Value}
    {sn_12 : List Str}
    {ab_12 : Bool}
    {col_12 : Option Bool}
    {dd_12 xd_12 xa_12 cdd_12 cld_12 : Option Addr}
    {k0_12 k1_12 k2_12 k3_12 k5_12 : Option Value}
    {xoc_12 xdoc_12 xpm_12 xct_12 ccl_12 cl_12 : Value}
    {j_12 : Nat}
    {p0_12 p1_12 p2_12 p3_12 p4_12 p5_12 q1_12 q2_12 q3_12 q4_12 r1_12 r2_12 : Pos}
    {tf_12 : Tok}
    {cdD_12 : ClassData}
    {xsl_12 ccs_12 csl_12 : Array (Option Value)}
    {vs_12 : Array Value}
    {nm_15 q_15 qu_15 ms_15 fi_15 : Str}
    {N_15 cc_15 cda_15 I_15 : Addr}
    {bs_15 bm_15 sub_15 : List Value}
    {sn_15 : List Str}
    {ab_15 : Bool}
    {col_15 : Option Bool}
    {dd_15 xd_15 xa_15 cdd_15 cld_15 : Option Addr}
    {k0_15 k1_15 k2_15 k3_15 k5_15 : Option Value}
    {xoc_15 xdoc_15 xpm_15 xct_15 ccl_15 cl_15 : Value}
    {j_15 : Nat}
    {p0_15 p1_15 p2_15 p3_15 p4_15 p5_15 q1_15 q2_15 q3_15 q4_15 r1_15 r2_15 : Pos}
    {tf_15 : Tok}
    {cdD_15 : ClassData}
    {xsl_15 ccs_15 csl_15 : Array (Option Value)}
    {vs_15 : Array Value}
    {D_B D_P f_bi dt_bi p_rm g_rm : Addr}
    {es_B es_P : Array DictEntry}
    {n_B n_P n_bi : Nat}
    {tb0 tb1 tb2 tb3 tb4 tp0 tp1 tp2 tp3 tk_bi : Tok}
    {oc_bi kV_bi dc_bi pm_bi cd_bi ct_bi dcl_bi oc_rm kV_rm dc_rm pm_rm cd_rm ct_rm : Value}
    {od_bi an_bi ddx_bi od_rm an_rm : Option Addr}
    {sl_bi dsl_bi sl_rm : Array (Option Value)}
    {rest_rm : List Value}
    {f_ji dt_ji : Addr}
    {n_ji : Nat}
    {tk_ji : Tok}
    {oc_ji kV_ji dc_ji pm_ji cd_ji ct_ji dcl_ji : Value}
    {od_ji an_ji ddx_ji : Option Addr}
    {sl_ji dsl_ji : Array (Option Value)}
    {od_checkL an_checkL : Option Addr}
    {sl_checkL : Array (Option Value)}
    {oc_checkL kV_checkL dc_checkL pm_checkL cd_checkL ct_checkL : Value}
    {od_fits an_fits : Option Addr}
    {sl_fits : Array (Option Value)}
    {oc_fits kV_fits dc_fits pm_fits cd_fits ct_fits : Value}
    {od_pinit an_pinit : Option Addr}
    {sl_pinit : Array (Option Value)}
    {oc_pinit kV_pinit dc_pinit pm_pinit cd_pinit ct_pinit : Value}
    {od_rinit an_rinit : Option Addr}
    {sl_rinit : Array (Option Value)}
    {oc_rinit kV_rinit dc_rinit pm_rinit cd_rinit ct_rinit : Value}
    {od_put an_put : Option Addr}
    {sl_put : Array (Option Value)}
    {oc_put kV_put dc_put pm_put cd_put ct_put : Value}
    {od_comb an_comb : Option Addr}
    {sl_comb : Array (Option Value)}
    {oc_comb kV_comb dc_comb pm_comb cd_comb ct_comb : Value}
    {od_down an_down : Option Addr}
    {sl_down : Array (Option Value)}
    {oc_down kV_down dc_down pm_down cd_down ct_down : Value}
    {od_wait an_wait : Option Addr}
    {sl_wait : Array (Option Value)}
    {oc_wait kV_wait dc_wait pm_wait cd_wait ct_wait : Value}
    {od_beg an_beg : Option Addr}
    {sl_beg : Array (Option Value)}
    {oc_beg kV_beg dc_beg pm_beg cd_beg ct_beg : Value}
    {od_close an_close : Option Addr}
    {sl_close : Array (Option Value)}
    {oc_close kV_close dc_close pm_close cd_close ct_close : Value}
    {od_take an_take : Option Addr}
    {sl_take : Array (Option Value)}
    {oc_take kV_take dc_take pm_take cd_take ct_take : Value}
    {od_read an_read : Option Addr}
    {sl_read : Array (Option Value)}
    {oc_read kV_read dc_read pm_read cd_read ct_read : Value}
    {od_name an_name : Option Addr}
    {sl_name : Array (Option Value)}
    {oc_name kV_name dc_name pm_name cd_name ct_name : Value}
    {od_roomC an_roomC : Option Addr}
    {sl_roomC : Array (Option Value)}
    {oc_roomC kV_roomC dc_roomC pm_roomC cd_roomC ct_roomC : Value}
    {od_blen an_blen : Option Addr}
    {sl_blen : Array (Option Value)}
    {oc_blen kV_blen dc_blen pm_blen cd_blen ct_blen : Value}
    {od_biter an_biter : Option Addr}
    {sl_biter : Array (Option Value)}
    {oc_biter kV_biter dc_biter pm_biter cd_biter ct_biter : Value}
    {od_bin an_bin : Option Addr}
    {sl_bin : Array (Option Value)}
    {oc_bin kV_bin dc_bin pm_bin cd_bin ct_bin : Value}
    {od_bset an_bset : Option Addr}
    {sl_bset : Array (Option Value)}
    {oc_bset kV_bset dc_bset pm_bset cd_bset ct_bset : Value}
    {od_bdrop an_bdrop : Option Addr}
    {sl_bdrop : Array (Option Value)}
    {oc_bdrop kV_bdrop dc_bdrop pm_bdrop cd_bdrop ct_bdrop : Value}
    {od_bwr an_bwr : Option Addr}
    {sl_bwr : Array (Option Value)}
    {oc_bwr kV_bwr dc_bwr pm_bwr cd_bwr ct_bwr : Value}
    {od_bget an_bget : Option Addr}
    {sl_bget : Array (Option Value)}
    {oc_bget kV_bget dc_bget pm_bget cd_bget ct_bget : Value}
    {od_peq an_peq : Option Addr}
    {sl_peq : Array (Option Value)}
    {oc_peq kV_peq dc_peq pm_peq cd_peq ct_peq : Value}
    {od_renamed an_renamed : Option Addr}
    {sl_renamed : Array (Option Value)}
    {oc_renamed kV_renamed dc_renamed pm_renamed cd_renamed ct_renamed : Value}
    {od_stepped an_stepped : Option Addr}
    {sl_stepped : Array (Option Value)}
    {oc_stepped kV_stepped dc_stepped pm_stepped cd_stepped ct_stepped : Value}
    {od_jlen an_jlen : Option Addr}
    {sl_jlen : Array (Option Value)}
    {oc_jlen kV_jlen dc_jlen pm_jlen cd_jlen ct_jlen : Value}
    {od_jat an_jat : Option Addr}
    {sl_jat : Array (Option Value)}
    {oc_jat kV_jat dc_jat pm_jat cd_jat ct_jat : Value}
    {od_jbook an_jbook : Option Addr}
    {sl_jbook : Array (Option Value)}
    {oc_jbook kV_jbook dc_jbook pm_jbook cd_jbook ct_jbook : Value}
    {od_jmake an_jmake : Option Addr}
    {sl_jmake : Array (Option Value)}
    {oc_jmake kV_jmake dc_jmake pm_jmake cd_jmake ct_jmake : Value}
    {od_jnote an_jnote : Option Addr}
    {sl_jnote : Array (Option Value)}
    {oc_jnote kV_jnote dc_jnote pm_jnote cd_jnote ct_jnote : Value}
    {od_jstrike an_jstrike : Option Addr}
    {sl_jstrike : Array (Option Value)}
    {oc_jstrike kV_jstrike dc_jstrike pm_jstrike cd_jstrike ct_jstrike : Value}
    {od_jren an_jren : Option Addr}
    {sl_jren : Array (Option Value)}
    {oc_jren kV_jren dc_jren pm_jren cd_jren ct_jren : Value}
    {od_jundo an_jundo : Option Addr}
    {sl_jundo : Array (Option Value)}
    {oc_jundo kV_jundo dc_jundo pm_jundo cd_jundo ct_jundo : Value}
    {od_jredo an_jredo : Option Addr}
    {sl_jredo : Array (Option Value)}
    {oc_jredo kV_jredo dc_jredo pm_jredo cd_jredo ct_jredo : Value}
    {od_new an_new : Option Addr}
    {sl_new : Array (Option Value)}
    {oc_new kV_new dc_new pm_new cd_new ct_new : Value}
    {od_draw an_draw : Option Addr}
    {sl_draw : Array (Option Value)}
    {oc_draw kV_draw dc_draw pm_draw cd_draw ct_draw : Value}
    {od_same an_same : Option Addr}
    {sl_same : Array (Option Value)}
    {oc_same kV_same dc_same pm_same cd_same ct_same : Value}
    {od_letters an_letters : Option Addr}
    {sl_letters : Array (Option Value)}
    {oc_letters kV_letters dc_letters pm_letters cd_letters ct_letters : Value}
    {od_classes an_classes : Option Addr}
    {sl_classes : Array (Option Value)}
    {oc_classes kV_classes dc_classes pm_classes cd_classes ct_classes : Value}
    {od_lname an_lname : Option Addr}
    {sl_lname : Array (Option Value)}
    {oc_lname kV_lname dc_lname pm_lname cd_lname ct_lname : Value}
    {od_named an_named : Option Addr}
    {sl_named : Array (Option Value)}
    {oc_named kV_named dc_named pm_named cd_named ct_named : Value}
    {od_some an_some : Option Addr}
    {sl_some : Array (Option Value)}
    {oc_some kV_some dc_some pm_some cd_some ct_some : Value}
    {od_text an_text : Option Addr}
    {sl_text : Array (Option Value)}
    {oc_text kV_text dc_text pm_text cd_text ct_text : Value}
    {od_behind an_behind : Option Addr}
    {sl_behind : Array (Option Value)}
    {oc_behind kV_behind dc_behind pm_behind cd_behind ct_behind : Value}
    {od_done an_done : Option Addr}
    {sl_done : Array (Option Value)}
    {oc_done kV_done dc_done pm_done cd_done ct_done : Value}
    {od_lat an_lat : Option Addr}
    {sl_lat : Array (Option Value)}
    {oc_lat kV_lat dc_lat pm_lat cd_lat ct_lat : Value}
    {od_is an_is : Option Addr}
    {sl_is : Array (Option Value)}
    {oc_is kV_is dc_is pm_is cd_is ct_is : Value}
    {od_stands an_stands : Option Addr}
    {sl_stands : Array (Option Value)}
    {oc_stands kV_stands dc_stands pm_stands cd_stands ct_stands : Value}
    {od_ear an_ear : Option Addr}
    {sl_ear : Array (Option Value)}
    {oc_ear kV_ear dc_ear pm_ear cd_ear ct_ear : Value}
    {od_back an_back : Option Addr}
    {sl_back : Array (Option Value)}
    {oc_back kV_back dc_back pm_back cd_back ct_back : Value}
    {od_law an_law : Option Addr}
    {sl_law : Array (Option Value)}
    {oc_law kV_law dc_law pm_law cd_law ct_law : Value}
    {fa C_R C_P C_B C_J f_checkL f_fits f_pinit f_rinit f_put f_comb f_down f_wait f_beg f_close f_take f_read f_name f_roomC f_blen f_biter f_bin f_bset f_bdrop f_bwr f_bget f_peq f_renamed f_stepped f_jlen f_jat f_jbook f_jmake f_jnote f_jstrike f_jren f_jundo f_jredo f_new f_draw f_same f_letters f_classes f_lname f_named f_some f_text f_behind f_done f_lat f_is f_stands f_ear f_back f_law : Addr}
    (hfa : mg "law" = some (.ref fa))
    (aC_R : PySem.W.nsIn K mainGlobals "Reader" = some (some (.ref C_R)))
    (aC_P : PySem.W.nsIn K mainGlobals "Pattern" = some (some (.ref C_P)))
    (aC_B : PySem.W.nsIn K mainGlobals "Book" = some (some (.ref C_B)))
    (aC_J : PySem.W.nsIn K mainGlobals "Journal" = some (some (.ref C_J)))
    (a_checkL : PySem.W.nsIn K mainGlobals "check_letters" = some (some (.ref f_checkL)))
    (l_checkL : K.lookup f_checkL = some ⟨oc_checkL, od_checkL, .func (PySem.W.fnOf "check_letters" "check_letters" (defArgs sCheckL) (defBody sCheckL) (defScope sCheckL) .none kV_checkL dc_checkL pm_checkL an_checkL cd_checkL ct_checkL), sl_checkL⟩)
    (c_checkL : PySem.W.codeIn K cd_checkL "check_letters" = true)
    (k_checkL : PySem.W.keepIn K (.ref f_checkL) = true)
    (a_fits : PySem.W.nsIn K mainGlobals "fits" = some (some (.ref f_fits)))
    (l_fits : K.lookup f_fits = some ⟨oc_fits, od_fits, .func (PySem.W.fnOf "fits" "fits" (defArgs sFits) (defBody sFits) (defScope sFits) .none kV_fits dc_fits pm_fits an_fits cd_fits ct_fits), sl_fits⟩)
    (c_fits : PySem.W.codeIn K cd_fits "fits" = true)
    (k_fits : PySem.W.keepIn K (.ref f_fits) = true)
    (a_pinit : PySem.W.findIn K (.ref C_P) "__init__" = some (some (.ref f_pinit)))
    (i_pinit : PySem.W.isFn K (.ref f_pinit) = true)
    (l_pinit : K.lookup f_pinit = some ⟨oc_pinit, od_pinit, .func (PySem.W.fnOf "__init__" "Pattern.__init__" (defArgs sPInit) (defBody sPInit) (defScope sPInit) .none kV_pinit dc_pinit pm_pinit an_pinit cd_pinit ct_pinit), sl_pinit⟩)
    (c_pinit : PySem.W.codeIn K cd_pinit "Pattern.__init__" = true)
    (k_pinit : PySem.W.keepIn K (.ref f_pinit) = true)
    (a_rinit : PySem.W.findIn K (.ref C_R) "__init__" = some (some (.ref f_rinit)))
    (i_rinit : PySem.W.isFn K (.ref f_rinit) = true)
    (l_rinit : K.lookup f_rinit = some ⟨oc_rinit, od_rinit, .func (PySem.W.fnOf "__init__" "Reader.__init__" (defArgs sRInit) (defBody sRInit) (defScope sRInit) .none kV_rinit dc_rinit pm_rinit an_rinit cd_rinit ct_rinit), sl_rinit⟩)
    (c_rinit : PySem.W.codeIn K cd_rinit "Reader.__init__" = true)
    (k_rinit : PySem.W.keepIn K (.ref f_rinit) = true)
    (a_put : PySem.W.findIn K (.ref C_R) "put" = some (some (.ref f_put)))
    (i_put : PySem.W.isFn K (.ref f_put) = true)
    (l_put : K.lookup f_put = some ⟨oc_put, od_put, .func (PySem.W.fnOf "put" "Reader.put" (defArgs sPut) (defBody sPut) (defScope sPut) .none kV_put dc_put pm_put an_put cd_put ct_put), sl_put⟩)
    (c_put : PySem.W.codeIn K cd_put "Reader.put" = true)
    (k_put : PySem.W.keepIn K (.ref f_put) = true)
    (a_comb : PySem.W.findIn K (.ref C_R) "combine" = some (some (.ref f_comb)))
    (i_comb : PySem.W.isFn K (.ref f_comb) = true)
    (l_comb : K.lookup f_comb = some ⟨oc_comb, od_comb, .func (PySem.W.fnOf "combine" "Reader.combine" (defArgs sCombine) (defBody sCombine) (defScope sCombine) .none kV_comb dc_comb pm_comb an_comb cd_comb ct_comb), sl_comb⟩)
    (c_comb : PySem.W.codeIn K cd_comb "Reader.combine" = true)
    (k_comb : PySem.W.keepIn K (.ref f_comb) = true)
    (a_down : PySem.W.findIn K (.ref C_R) "combine_down_to" = some (some (.ref f_down)))
    (i_down : PySem.W.isFn K (.ref f_down) = true)
    (l_down : K.lookup f_down = some ⟨oc_down, od_down, .func (PySem.W.fnOf "combine_down_to" "Reader.combine_down_to" (defArgs sDown) (defBody sDown) (defScope sDown) .none kV_down dc_down pm_down an_down cd_down ct_down), sl_down⟩)
    (c_down : PySem.W.codeIn K cd_down "Reader.combine_down_to" = true)
    (k_down : PySem.W.keepIn K (.ref f_down) = true)
    (a_wait : PySem.W.findIn K (.ref C_R) "wait" = some (some (.ref f_wait)))
    (i_wait : PySem.W.isFn K (.ref f_wait) = true)
    (l_wait : K.lookup f_wait = some ⟨oc_wait, od_wait, .func (PySem.W.fnOf "wait" "Reader.wait" (defArgs sWait) (defBody sWait) (defScope sWait) .none kV_wait dc_wait pm_wait an_wait cd_wait ct_wait), sl_wait⟩)
    (c_wait : PySem.W.codeIn K cd_wait "Reader.wait" = true)
    (k_wait : PySem.W.keepIn K (.ref f_wait) = true)
    (a_beg : PySem.W.findIn K (.ref C_R) "begin" = some (some (.ref f_beg)))
    (i_beg : PySem.W.isFn K (.ref f_beg) = true)
    (l_beg : K.lookup f_beg = some ⟨oc_beg, od_beg, .func (PySem.W.fnOf "begin" "Reader.begin" (defArgs sBegin) (defBody sBegin) (defScope sBegin) .none kV_beg dc_beg pm_beg an_beg cd_beg ct_beg), sl_beg⟩)
    (c_beg : PySem.W.codeIn K cd_beg "Reader.begin" = true)
    (k_beg : PySem.W.keepIn K (.ref f_beg) = true)
    (a_close : PySem.W.findIn K (.ref C_R) "close" = some (some (.ref f_close)))
    (i_close : PySem.W.isFn K (.ref f_close) = true)
    (l_close : K.lookup f_close = some ⟨oc_close, od_close, .func (PySem.W.fnOf "close" "Reader.close" (defArgs sClose) (defBody sClose) (defScope sClose) .none kV_close dc_close pm_close an_close cd_close ct_close), sl_close⟩)
    (c_close : PySem.W.codeIn K cd_close "Reader.close" = true)
    (k_close : PySem.W.keepIn K (.ref f_close) = true)
    (a_take : PySem.W.findIn K (.ref C_R) "take" = some (some (.ref f_take)))
    (i_take : PySem.W.isFn K (.ref f_take) = true)
    (l_take : K.lookup f_take = some ⟨oc_take, od_take, .func (PySem.W.fnOf "take" "Reader.take" (defArgs sTake) (defBody sTake) (defScope sTake) .none kV_take dc_take pm_take an_take cd_take ct_take), sl_take⟩)
    (c_take : PySem.W.codeIn K cd_take "Reader.take" = true)
    (k_take : PySem.W.keepIn K (.ref f_take) = true)
    (a_read : PySem.W.nsIn K mainGlobals "read_pattern" = some (some (.ref f_read)))
    (l_read : K.lookup f_read = some ⟨oc_read, od_read, .func (PySem.W.fnOf "read_pattern" "read_pattern" (defArgs sRead) (defBody sRead) (defScope sRead) .none kV_read dc_read pm_read an_read cd_read ct_read), sl_read⟩)
    (c_read : PySem.W.codeIn K cd_read "read_pattern" = true)
    (k_read : PySem.W.keepIn K (.ref f_read) = true)
    (a_name : PySem.W.nsIn K mainGlobals "check_name" = some (some (.ref f_name)))
    (l_name : K.lookup f_name = some ⟨oc_name, od_name, .func (PySem.W.fnOf "check_name" "check_name" (defArgs sName) (defBody sName) (defScope sName) .none kV_name dc_name pm_name an_name cd_name ct_name), sl_name⟩)
    (c_name : PySem.W.codeIn K cd_name "check_name" = true)
    (k_name : PySem.W.keepIn K (.ref f_name) = true)
    (a_roomC : PySem.W.nsIn K mainGlobals "check_room" = some (some (.ref f_roomC)))
    (l_roomC : K.lookup f_roomC = some ⟨oc_roomC, od_roomC, .func (PySem.W.fnOf "check_room" "check_room" (defArgs sRoomC) (defBody sRoomC) (defScope sRoomC) .none kV_roomC dc_roomC pm_roomC an_roomC cd_roomC ct_roomC), sl_roomC⟩)
    (c_roomC : PySem.W.codeIn K cd_roomC "check_room" = true)
    (k_roomC : PySem.W.keepIn K (.ref f_roomC) = true)
    (a_blen : PySem.W.findIn K (.ref C_B) "__len__" = some (some (.ref f_blen)))
    (i_blen : PySem.W.isFn K (.ref f_blen) = true)
    (l_blen : K.lookup f_blen = some ⟨oc_blen, od_blen, .func (PySem.W.fnOf "__len__" "Book.__len__" (defArgs sBLen) (defBody sBLen) (defScope sBLen) .none kV_blen dc_blen pm_blen an_blen cd_blen ct_blen), sl_blen⟩)
    (c_blen : PySem.W.codeIn K cd_blen "Book.__len__" = true)
    (k_blen : PySem.W.keepIn K (.ref f_blen) = true)
    (a_biter : PySem.W.findIn K (.ref C_B) "__iter__" = some (some (.ref f_biter)))
    (i_biter : PySem.W.isFn K (.ref f_biter) = true)
    (l_biter : K.lookup f_biter = some ⟨oc_biter, od_biter, .func (PySem.W.fnOf "__iter__" "Book.__iter__" (defArgs sBIter) (defBody sBIter) (defScope sBIter) .none kV_biter dc_biter pm_biter an_biter cd_biter ct_biter), sl_biter⟩)
    (c_biter : PySem.W.codeIn K cd_biter "Book.__iter__" = true)
    (k_biter : PySem.W.keepIn K (.ref f_biter) = true)
    (a_bin : PySem.W.findIn K (.ref C_B) "__contains__" = some (some (.ref f_bin)))
    (i_bin : PySem.W.isFn K (.ref f_bin) = true)
    (l_bin : K.lookup f_bin = some ⟨oc_bin, od_bin, .func (PySem.W.fnOf "__contains__" "Book.__contains__" (defArgs sBIn) (defBody sBIn) (defScope sBIn) .none kV_bin dc_bin pm_bin an_bin cd_bin ct_bin), sl_bin⟩)
    (c_bin : PySem.W.codeIn K cd_bin "Book.__contains__" = true)
    (k_bin : PySem.W.keepIn K (.ref f_bin) = true)
    (a_bset : PySem.W.findIn K (.ref C_B) "__setitem__" = some (some (.ref f_bset)))
    (i_bset : PySem.W.isFn K (.ref f_bset) = true)
    (l_bset : K.lookup f_bset = some ⟨oc_bset, od_bset, .func (PySem.W.fnOf "__setitem__" "Book.__setitem__" (defArgs sBSet) (defBody sBSet) (defScope sBSet) .none kV_bset dc_bset pm_bset an_bset cd_bset ct_bset), sl_bset⟩)
    (c_bset : PySem.W.codeIn K cd_bset "Book.__setitem__" = true)
    (k_bset : PySem.W.keepIn K (.ref f_bset) = true)
    (a_bdrop : PySem.W.findIn K (.ref C_B) "drop" = some (some (.ref f_bdrop)))
    (i_bdrop : PySem.W.isFn K (.ref f_bdrop) = true)
    (l_bdrop : K.lookup f_bdrop = some ⟨oc_bdrop, od_bdrop, .func (PySem.W.fnOf "drop" "Book.drop" (defArgs sBDrop) (defBody sBDrop) (defScope sBDrop) .none kV_bdrop dc_bdrop pm_bdrop an_bdrop cd_bdrop ct_bdrop), sl_bdrop⟩)
    (c_bdrop : PySem.W.codeIn K cd_bdrop "Book.drop" = true)
    (k_bdrop : PySem.W.keepIn K (.ref f_bdrop) = true)
    (a_bwr : PySem.W.findIn K (.ref C_B) "written" = some (some (.ref f_bwr)))
    (i_bwr : PySem.W.isFn K (.ref f_bwr) = true)
    (l_bwr : K.lookup f_bwr = some ⟨oc_bwr, od_bwr, .func (PySem.W.fnOf "written" "Book.written" (defArgs sBWritten) (defBody sBWritten) (defScope sBWritten) .none kV_bwr dc_bwr pm_bwr an_bwr cd_bwr ct_bwr), sl_bwr⟩)
    (c_bwr : PySem.W.codeIn K cd_bwr "Book.written" = true)
    (k_bwr : PySem.W.keepIn K (.ref f_bwr) = true)
    (a_bget : PySem.W.findIn K (.ref C_B) "__getitem__" = some (some (.ref f_bget)))
    (i_bget : PySem.W.isFn K (.ref f_bget) = true)
    (l_bget : K.lookup f_bget = some ⟨oc_bget, od_bget, .func (PySem.W.fnOf "__getitem__" "Book.__getitem__" (defArgs sBGet) (defBody sBGet) (defScope sBGet) .none kV_bget dc_bget pm_bget an_bget cd_bget ct_bget), sl_bget⟩)
    (c_bget : PySem.W.codeIn K cd_bget "Book.__getitem__" = true)
    (k_bget : PySem.W.keepIn K (.ref f_bget) = true)
    (a_peq : PySem.W.findIn K (.ref C_P) "__eq__" = some (some (.ref f_peq)))
    (i_peq : PySem.W.isFn K (.ref f_peq) = true)
    (l_peq : K.lookup f_peq = some ⟨oc_peq, od_peq, .func (PySem.W.fnOf "__eq__" "Pattern.__eq__" (defArgs sPEq) (defBody sPEq) (defScope sPEq) .none kV_peq dc_peq pm_peq an_peq cd_peq ct_peq), sl_peq⟩)
    (c_peq : PySem.W.codeIn K cd_peq "Pattern.__eq__" = true)
    (k_peq : PySem.W.keepIn K (.ref f_peq) = true)
    (a_renamed : PySem.W.nsIn K mainGlobals "renamed" = some (some (.ref f_renamed)))
    (l_renamed : K.lookup f_renamed = some ⟨oc_renamed, od_renamed, .func (PySem.W.fnOf "renamed" "renamed" (defArgs sRenamed) (defBody sRenamed) (defScope sRenamed) .none kV_renamed dc_renamed pm_renamed an_renamed cd_renamed ct_renamed), sl_renamed⟩)
    (c_renamed : PySem.W.codeIn K cd_renamed "renamed" = true)
    (k_renamed : PySem.W.keepIn K (.ref f_renamed) = true)
    (a_stepped : PySem.W.nsIn K mainGlobals "stepped" = some (some (.ref f_stepped)))
    (l_stepped : K.lookup f_stepped = some ⟨oc_stepped, od_stepped, .func (PySem.W.fnOf "stepped" "stepped" (defArgs sStepped) (defBody sStepped) (defScope sStepped) .none kV_stepped dc_stepped pm_stepped an_stepped cd_stepped ct_stepped), sl_stepped⟩)
    (c_stepped : PySem.W.codeIn K cd_stepped "stepped" = true)
    (k_stepped : PySem.W.keepIn K (.ref f_stepped) = true)
    (a_jlen : PySem.W.findIn K (.ref C_J) "__len__" = some (some (.ref f_jlen)))
    (i_jlen : PySem.W.isFn K (.ref f_jlen) = true)
    (l_jlen : K.lookup f_jlen = some ⟨oc_jlen, od_jlen, .func (PySem.W.fnOf "__len__" "Journal.__len__" (defArgs sJLen) (defBody sJLen) (defScope sJLen) .none kV_jlen dc_jlen pm_jlen an_jlen cd_jlen ct_jlen), sl_jlen⟩)
    (c_jlen : PySem.W.codeIn K cd_jlen "Journal.__len__" = true)
    (k_jlen : PySem.W.keepIn K (.ref f_jlen) = true)
    (a_jat : PySem.W.findIn K (.ref C_J) "book_at" = some (some (.ref f_jat)))
    (i_jat : PySem.W.isFn K (.ref f_jat) = true)
    (l_jat : K.lookup f_jat = some ⟨oc_jat, od_jat, .func (PySem.W.fnOf "book_at" "Journal.book_at" (defArgs sJAt) (defBody sJAt) (defScope sJAt) .none kV_jat dc_jat pm_jat an_jat cd_jat ct_jat), sl_jat⟩)
    (c_jat : PySem.W.codeIn K cd_jat "Journal.book_at" = true)
    (k_jat : PySem.W.keepIn K (.ref f_jat) = true)
    (a_jbook : PySem.W.findIn K (.ref C_J) "book" = some (some (.ref f_jbook)))
    (i_jbook : PySem.W.isFn K (.ref f_jbook) = true)
    (l_jbook : K.lookup f_jbook = some ⟨oc_jbook, od_jbook, .func (PySem.W.fnOf "book" "Journal.book" (defArgs sJBook) (defBody sJBook) (defScope sJBook) .none kV_jbook dc_jbook pm_jbook an_jbook cd_jbook ct_jbook), sl_jbook⟩)
    (c_jbook : PySem.W.codeIn K cd_jbook "Journal.book" = true)
    (k_jbook : PySem.W.keepIn K (.ref f_jbook) = true)
    (a_jmake : PySem.W.findIn K (.ref C_J) "make" = some (some (.ref f_jmake)))
    (i_jmake : PySem.W.isFn K (.ref f_jmake) = true)
    (l_jmake : K.lookup f_jmake = some ⟨oc_jmake, od_jmake, .func (PySem.W.fnOf "make" "Journal.make" (defArgs sJMake) (defBody sJMake) (defScope sJMake) .none kV_jmake dc_jmake pm_jmake an_jmake cd_jmake ct_jmake), sl_jmake⟩)
    (c_jmake : PySem.W.codeIn K cd_jmake "Journal.make" = true)
    (k_jmake : PySem.W.keepIn K (.ref f_jmake) = true)
    (a_jnote : PySem.W.findIn K (.ref C_J) "note" = some (some (.ref f_jnote)))
    (i_jnote : PySem.W.isFn K (.ref f_jnote) = true)
    (l_jnote : K.lookup f_jnote = some ⟨oc_jnote, od_jnote, .func (PySem.W.fnOf "note" "Journal.note" (defArgs sJNote) (defBody sJNote) (defScope sJNote) .none kV_jnote dc_jnote pm_jnote an_jnote cd_jnote ct_jnote), sl_jnote⟩)
    (c_jnote : PySem.W.codeIn K cd_jnote "Journal.note" = true)
    (k_jnote : PySem.W.keepIn K (.ref f_jnote) = true)
    (a_jstrike : PySem.W.findIn K (.ref C_J) "strike" = some (some (.ref f_jstrike)))
    (i_jstrike : PySem.W.isFn K (.ref f_jstrike) = true)
    (l_jstrike : K.lookup f_jstrike = some ⟨oc_jstrike, od_jstrike, .func (PySem.W.fnOf "strike" "Journal.strike" (defArgs sJStrike) (defBody sJStrike) (defScope sJStrike) .none kV_jstrike dc_jstrike pm_jstrike an_jstrike cd_jstrike ct_jstrike), sl_jstrike⟩)
    (c_jstrike : PySem.W.codeIn K cd_jstrike "Journal.strike" = true)
    (k_jstrike : PySem.W.keepIn K (.ref f_jstrike) = true)
    (a_jren : PySem.W.findIn K (.ref C_J) "rename" = some (some (.ref f_jren)))
    (i_jren : PySem.W.isFn K (.ref f_jren) = true)
    (l_jren : K.lookup f_jren = some ⟨oc_jren, od_jren, .func (PySem.W.fnOf "rename" "Journal.rename" (defArgs sJRen) (defBody sJRen) (defScope sJRen) .none kV_jren dc_jren pm_jren an_jren cd_jren ct_jren), sl_jren⟩)
    (c_jren : PySem.W.codeIn K cd_jren "Journal.rename" = true)
    (k_jren : PySem.W.keepIn K (.ref f_jren) = true)
    (a_jundo : PySem.W.findIn K (.ref C_J) "undo" = some (some (.ref f_jundo)))
    (i_jundo : PySem.W.isFn K (.ref f_jundo) = true)
    (l_jundo : K.lookup f_jundo = some ⟨oc_jundo, od_jundo, .func (PySem.W.fnOf "undo" "Journal.undo" (defArgs sJUndo) (defBody sJUndo) (defScope sJUndo) .none kV_jundo dc_jundo pm_jundo an_jundo cd_jundo ct_jundo), sl_jundo⟩)
    (c_jundo : PySem.W.codeIn K cd_jundo "Journal.undo" = true)
    (k_jundo : PySem.W.keepIn K (.ref f_jundo) = true)
    (a_jredo : PySem.W.findIn K (.ref C_J) "redo" = some (some (.ref f_jredo)))
    (i_jredo : PySem.W.isFn K (.ref f_jredo) = true)
    (l_jredo : K.lookup f_jredo = some ⟨oc_jredo, od_jredo, .func (PySem.W.fnOf "redo" "Journal.redo" (defArgs sJRedo) (defBody sJRedo) (defScope sJRedo) .none kV_jredo dc_jredo pm_jredo an_jredo cd_jredo ct_jredo), sl_jredo⟩)
    (c_jredo : PySem.W.codeIn K cd_jredo "Journal.redo" = true)
    (k_jredo : PySem.W.keepIn K (.ref f_jredo) = true)
    (a_new : PySem.W.nsIn K mainGlobals "_law_new" = some (some (.ref f_new)))
    (l_new : K.lookup f_new = some ⟨oc_new, od_new, .func (PySem.W.fnOf "_law_new" "_law_new" (defArgs sNew) (defBody sNew) (defScope sNew) .none kV_new dc_new pm_new an_new cd_new ct_new), sl_new⟩)
    (c_new : PySem.W.codeIn K cd_new "_law_new" = true)
    (k_new : PySem.W.keepIn K (.ref f_new) = true)
    (a_draw : PySem.W.nsIn K mainGlobals "_law_draw" = some (some (.ref f_draw)))
    (l_draw : K.lookup f_draw = some ⟨oc_draw, od_draw, .func (PySem.W.fnOf "_law_draw" "_law_draw" (defArgs sDraw) (defBody sDraw) (defScope sDraw) .none kV_draw dc_draw pm_draw an_draw cd_draw ct_draw), sl_draw⟩)
    (c_draw : PySem.W.codeIn K cd_draw "_law_draw" = true)
    (k_draw : PySem.W.keepIn K (.ref f_draw) = true)
    (a_same : PySem.W.nsIn K mainGlobals "_law_same" = some (some (.ref f_same)))
    (l_same : K.lookup f_same = some ⟨oc_same, od_same, .func (PySem.W.fnOf "_law_same" "_law_same" (defArgs sSame) (defBody sSame) (defScope sSame) .none kV_same dc_same pm_same an_same cd_same ct_same), sl_same⟩)
    (c_same : PySem.W.codeIn K cd_same "_law_same" = true)
    (k_same : PySem.W.keepIn K (.ref f_same) = true)
    (a_letters : PySem.W.nsIn K mainGlobals "_law_letters" = some (some (.ref f_letters)))
    (l_letters : K.lookup f_letters = some ⟨oc_letters, od_letters, .func (PySem.W.fnOf "_law_letters" "_law_letters" (defArgs sLetters) (defBody sLetters) (defScope sLetters) .none kV_letters dc_letters pm_letters an_letters cd_letters ct_letters), sl_letters⟩)
    (c_letters : PySem.W.codeIn K cd_letters "_law_letters" = true)
    (k_letters : PySem.W.keepIn K (.ref f_letters) = true)
    (a_classes : PySem.W.nsIn K mainGlobals "_law_classes" = some (some (.ref f_classes)))
    (l_classes : K.lookup f_classes = some ⟨oc_classes, od_classes, .func (PySem.W.fnOf "_law_classes" "_law_classes" (defArgs sClasses) (defBody sClasses) (defScope sClasses) .none kV_classes dc_classes pm_classes an_classes cd_classes ct_classes), sl_classes⟩)
    (c_classes : PySem.W.codeIn K cd_classes "_law_classes" = true)
    (k_classes : PySem.W.keepIn K (.ref f_classes) = true)
    (a_lname : PySem.W.nsIn K mainGlobals "_law_name" = some (some (.ref f_lname)))
    (l_lname : K.lookup f_lname = some ⟨oc_lname, od_lname, .func (PySem.W.fnOf "_law_name" "_law_name" (defArgs sLName) (defBody sLName) (defScope sLName) .none kV_lname dc_lname pm_lname an_lname cd_lname ct_lname), sl_lname⟩)
    (c_lname : PySem.W.codeIn K cd_lname "_law_name" = true)
    (k_lname : PySem.W.keepIn K (.ref f_lname) = true)
    (a_named : PySem.W.nsIn K mainGlobals "_law_named" = some (some (.ref f_named)))
    (l_named : K.lookup f_named = some ⟨oc_named, od_named, .func (PySem.W.fnOf "_law_named" "_law_named" (defArgs sNamed) (defBody sNamed) (defScope sNamed) .none kV_named dc_named pm_named an_named cd_named ct_named), sl_named⟩)
    (c_named : PySem.W.codeIn K cd_named "_law_named" = true)
    (k_named : PySem.W.keepIn K (.ref f_named) = true)
    (a_some : PySem.W.nsIn K mainGlobals "_law_some_name" = some (some (.ref f_some)))
    (l_some : K.lookup f_some = some ⟨oc_some, od_some, .func (PySem.W.fnOf "_law_some_name" "_law_some_name" (defArgs sSome) (defBody sSome) (defScope sSome) .none kV_some dc_some pm_some an_some cd_some ct_some), sl_some⟩)
    (c_some : PySem.W.codeIn K cd_some "_law_some_name" = true)
    (k_some : PySem.W.keepIn K (.ref f_some) = true)
    (a_text : PySem.W.nsIn K mainGlobals "_law_text" = some (some (.ref f_text)))
    (l_text : K.lookup f_text = some ⟨oc_text, od_text, .func (PySem.W.fnOf "_law_text" "_law_text" (defArgs sText) (defBody sText) (defScope sText) .none kV_text dc_text pm_text an_text cd_text ct_text), sl_text⟩)
    (c_text : PySem.W.codeIn K cd_text "_law_text" = true)
    (k_text : PySem.W.keepIn K (.ref f_text) = true)
    (a_behind : PySem.W.nsIn K mainGlobals "_law_behind" = some (some (.ref f_behind)))
    (l_behind : K.lookup f_behind = some ⟨oc_behind, od_behind, .func (PySem.W.fnOf "_law_behind" "_law_behind" (defArgs sBehind) (defBody sBehind) (defScope sBehind) .none kV_behind dc_behind pm_behind an_behind cd_behind ct_behind), sl_behind⟩)
    (c_behind : PySem.W.codeIn K cd_behind "_law_behind" = true)
    (k_behind : PySem.W.keepIn K (.ref f_behind) = true)
    (a_done : PySem.W.nsIn K mainGlobals "_law_done" = some (some (.ref f_done)))
    (l_done : K.lookup f_done = some ⟨oc_done, od_done, .func (PySem.W.fnOf "_law_done" "_law_done" (defArgs sDone) (defBody sDone) (defScope sDone) .none kV_done dc_done pm_done an_done cd_done ct_done), sl_done⟩)
    (c_done : PySem.W.codeIn K cd_done "_law_done" = true)
    (k_done : PySem.W.keepIn K (.ref f_done) = true)
    (a_lat : PySem.W.nsIn K mainGlobals "_law_at" = some (some (.ref f_lat)))
    (l_lat : K.lookup f_lat = some ⟨oc_lat, od_lat, .func (PySem.W.fnOf "_law_at" "_law_at" (defArgs sLAt) (defBody sLAt) (defScope sLAt) .none kV_lat dc_lat pm_lat an_lat cd_lat ct_lat), sl_lat⟩)
    (c_lat : PySem.W.codeIn K cd_lat "_law_at" = true)
    (k_lat : PySem.W.keepIn K (.ref f_lat) = true)
    (a_is : PySem.W.nsIn K mainGlobals "_law_is" = some (some (.ref f_is)))
    (l_is : K.lookup f_is = some ⟨oc_is, od_is, .func (PySem.W.fnOf "_law_is" "_law_is" (defArgs sIs) (defBody sIs) (defScope sIs) .none kV_is dc_is pm_is an_is cd_is ct_is), sl_is⟩)
    (c_is : PySem.W.codeIn K cd_is "_law_is" = true)
    (k_is : PySem.W.keepIn K (.ref f_is) = true)
    (a_stands : PySem.W.nsIn K mainGlobals "_law_stands" = some (some (.ref f_stands)))
    (l_stands : K.lookup f_stands = some ⟨oc_stands, od_stands, .func (PySem.W.fnOf "_law_stands" "_law_stands" (defArgs sStands) (defBody sStands) (defScope sStands) .none kV_stands dc_stands pm_stands an_stands cd_stands ct_stands), sl_stands⟩)
    (c_stands : PySem.W.codeIn K cd_stands "_law_stands" = true)
    (k_stands : PySem.W.keepIn K (.ref f_stands) = true)
    (a_ear : PySem.W.nsIn K mainGlobals "_law_earlier_books" = some (some (.ref f_ear)))
    (l_ear : K.lookup f_ear = some ⟨oc_ear, od_ear, .func (PySem.W.fnOf "_law_earlier_books" "_law_earlier_books" (defArgs sEar) (defBody sEar) (defScope sEar) .none kV_ear dc_ear pm_ear an_ear cd_ear ct_ear), sl_ear⟩)
    (c_ear : PySem.W.codeIn K cd_ear "_law_earlier_books" = true)
    (k_ear : PySem.W.keepIn K (.ref f_ear) = true)
    (a_back : PySem.W.nsIn K mainGlobals "_law_all_back" = some (some (.ref f_back)))
    (l_back : K.lookup f_back = some ⟨oc_back, od_back, .func (PySem.W.fnOf "_law_all_back" "_law_all_back" (defArgs sBack) (defBody sBack) (defScope sBack) .none kV_back dc_back pm_back an_back cd_back ct_back), sl_back⟩)
    (c_back : PySem.W.codeIn K cd_back "_law_all_back" = true)
    (k_back : PySem.W.keepIn K (.ref f_back) = true)
    (a_law : PySem.W.nsIn K mainGlobals "law" = some (some (.ref f_law)))
    (l_law : K.lookup f_law = some ⟨oc_law, od_law, .func (PySem.W.fnOf "law" "law" (defArgs sLaw) (defBody sLaw) (defScope sLaw) .none kV_law dc_law pm_law an_law cd_law ct_law), sl_law⟩)
    (c_law : PySem.W.codeIn K cd_law "law" = true)
    (k_law : PySem.W.keepIn K (.ref f_law) = true)
    (pg_R : PySem.W.plainGet K C_R Str.empty = true)
    (hd_R : PySem.W.hasDictIn K C_R = true)
    (po_R : PySem.W.plainOver K C_R = true)
    (sa_R : PySem.W.findIn K (.ref C_R) "__setattr__" = some (some (.builtin "object.__setattr__")))
    (mk_R : PySem.W.makesIn K C_R = true)
    (kc_R : PySem.W.keepIn K (.ref C_R) = true)
    (pg_P : PySem.W.plainGet K C_P Str.empty = true)
    (hd_P : PySem.W.hasDictIn K C_P = true)
    (po_P : PySem.W.plainOver K C_P = true)
    (sa_P : PySem.W.findIn K (.ref C_P) "__setattr__" = some (some (.builtin "object.__setattr__")))
    (mk_P : PySem.W.makesIn K C_P = true)
    (kc_P : PySem.W.keepIn K (.ref C_P) = true)
    (pg_B : PySem.W.plainGet K C_B Str.empty = true)
    (hd_B : PySem.W.hasDictIn K C_B = true)
    (po_B : PySem.W.plainOver K C_B = true)
    (sa_B : PySem.W.findIn K (.ref C_B) "__setattr__" = some (some (.builtin "object.__setattr__")))
    (mk_B : PySem.W.makesIn K C_B = true)
    (kc_B : PySem.W.keepIn K (.ref C_B) = true)
    (pg_J : PySem.W.plainGet K C_J Str.empty = true)
    (hd_J : PySem.W.hasDictIn K C_J = true)
    (po_J : PySem.W.plainOver K C_J = true)
    (sa_J : PySem.W.findIn K (.ref C_J) "__setattr__" = some (some (.builtin "object.__setattr__")))
    (mk_J : PySem.W.makesIn K C_J = true)
    (kc_J : PySem.W.keepIn K (.ref C_J) = true)
    (n_R_letters : PySem.W.findIn K (.ref C_R) "letters" = some none)
    (n_R_rows : PySem.W.findIn K (.ref C_R) "rows" = some none)
    (n_R_operands : PySem.W.findIn K (.ref C_R) "operands" = some none)
    (n_R_waiting : PySem.W.findIn K (.ref C_R) "waiting" = some none)
    (n_R_ready : PySem.W.findIn K (.ref C_R) "ready" = some none)
    (n_P_letters : PySem.W.findIn K (.ref C_P) "letters" = some none)
    (n_P_rows : PySem.W.findIn K (.ref C_P) "rows" = some none)
    (n_B_letters : PySem.W.findIn K (.ref C_B) "letters" = some none)
    (n_B_texts : PySem.W.findIn K (.ref C_B) "texts" = some none)
    (n_B_patterns : PySem.W.findIn K (.ref C_B) "patterns" = some none)
    (n_B_former_texts : PySem.W.findIn K (.ref C_B) "former_texts" = some none)
    (n_B_former_patterns : PySem.W.findIn K (.ref C_B) "former_patterns" = some none)
    (n_B__room : PySem.W.findIn K (.ref C_B) "_room" = some none)
    (n_J__latest : PySem.W.findIn K (.ref C_J) "_latest" = some none)
    (n_J__made : PySem.W.findIn K (.ref C_J) "_made" = some none)
    (n_J__undone : PySem.W.findIn K (.ref C_J) "_undone" = some none)
    (n_J_letters : PySem.W.findIn K (.ref C_J) "letters" = some none)
    (g_ML : PySem.W.nsIn K mainGlobals "MOST_LETTERS" = some (some (.int 3 t_ML)))
    (g_SM : PySem.W.nsIn K mainGlobals "SMALL_words" = some (some (.str "abcdefghijklmnopqrstuvwxyz" t_SM)))
    (g_MT : PySem.W.nsIn K mainGlobals "MOST_TEXT" = some (some (.int 200 t_MT)))
    (g_MN : PySem.W.nsIn K mainGlobals "MOST_NAMES" = some (some (.int 100 t_MN)))
    (g_MM : PySem.W.nsIn K mainGlobals "MOST_NAME" = some (some (.int 12 t_MM)))
    (g_SB : PySem.W.nsIn K mainGlobals "SMALL_books" = some (some (.str "abcdefghijklmnopqrstuvwxyz" t_SB)))
    (g_DG : PySem.W.nsIn K mainGlobals "DIGITS" = some (some (.str "0123456789" t_DG)))
    (co_P_MOST_ROWS : PySem.W.findIn K (.ref C_P) "MOST_ROWS" = some (some (.int 16000 u_P_MOST_ROWS)))
    (cg_P_MOST_ROWS : PySem.W.specialIn K (.int 16000 u_P_MOST_ROWS) "__get__" = some none)
    (z_len : PySem.W.nsIn K mainGlobals "len" = some none)
    (z_int : PySem.W.nsIn K mainGlobals "int" = some none)
    (z_range : PySem.W.nsIn K mainGlobals "range" = some none)
    (z_tuple : PySem.W.nsIn K mainGlobals "tuple" = some none)
    (z_enumerate : PySem.W.nsIn K mainGlobals "enumerate" = some none)
    (z_list : PySem.W.nsIn K mainGlobals "list" = some none)
    (z_isinstance : PySem.W.nsIn K mainGlobals "isinstance" = some none)
    (z_bool : PySem.W.nsIn K mainGlobals "bool" = some none)
    (z_str : PySem.W.nsIn K mainGlobals "str" = some none)
    (z_super : PySem.W.nsIn K mainGlobals "super" = some none)
    (z_ValueError : PySem.W.nsIn K mainGlobals "ValueError" = some none)
    (z_iter : PySem.W.nsIn K mainGlobals "iter" = some none)
    (aE_1 : PySem.W.nsIn K mainGlobals "ToolError" = some (some (.ref E_1)))
    (hdE_1 : PySem.W.hasDictIn K E_1 = true)
    (tyE_1 : PySem.W.typeIn K (.ref E_1) = some (.type "type"))
    (aE_2 : PySem.W.nsIn K mainGlobals "LettersError" = some (some (.ref E_2)))
    (hdE_2 : PySem.W.hasDictIn K E_2 = true)
    (tyE_2 : PySem.W.typeIn K (.ref E_2) = some (.type "type"))
    (aE_3 : PySem.W.nsIn K mainGlobals "MixedLetters" = some (some (.ref E_3)))
    (hdE_3 : PySem.W.hasDictIn K E_3 = true)
    (tyE_3 : PySem.W.typeIn K (.ref E_3) = some (.type "type"))
    (aE_4 : PySem.W.nsIn K mainGlobals "TableError" = some (some (.ref E_4)))
    (hdE_4 : PySem.W.hasDictIn K E_4 = true)
    (tyE_4 : PySem.W.typeIn K (.ref E_4) = some (.type "type"))
    (aE_5 : PySem.W.nsIn K mainGlobals "ActionError" = some (some (.ref E_5)))
    (hdE_5 : PySem.W.hasDictIn K E_5 = true)
    (tyE_5 : PySem.W.typeIn K (.ref E_5) = some (.type "type"))
    (aE_6 : PySem.W.nsIn K mainGlobals "LassoError" = some (some (.ref E_6)))
    (hdE_6 : PySem.W.hasDictIn K E_6 = true)
    (tyE_6 : PySem.W.typeIn K (.ref E_6) = some (.type "type"))
    (aE_7 : PySem.W.nsIn K mainGlobals "LetterError" = some (some (.ref E_7)))
    (hdE_7 : PySem.W.hasDictIn K E_7 = true)
    (tyE_7 : PySem.W.typeIn K (.ref E_7) = some (.type "type"))
    (aE_8 : PySem.W.nsIn K mainGlobals "StateError" = some (some (.ref E_8)))
    (hdE_8 : PySem.W.hasDictIn K E_8 = true)
    (tyE_8 : PySem.W.typeIn K (.ref E_8) = some (.type "type"))
    (exE_8 : PySem.W.subIn K (.ref E_8) (.type "BaseException") = some true)
    (kpE_8 : PySem.W.keepIn K (.ref E_8) = true)
    (aE_9 : PySem.W.nsIn K mainGlobals "RowError" = some (some (.ref E_9)))
    (hdE_9 : PySem.W.hasDictIn K E_9 = true)
    (tyE_9 : PySem.W.typeIn K (.ref E_9) = some (.type "type"))
    (aE_10 : PySem.W.nsIn K mainGlobals "NotStarFree" = some (some (.ref E_10)))
    (hdE_10 : PySem.W.hasDictIn K E_10 = true)
    (tyE_10 : PySem.W.typeIn K (.ref E_10) = some (.type "type"))
    (aE_11 : PySem.W.nsIn K mainGlobals "TextError" = some (some (.ref E_11)))
    (hdE_11 : PySem.W.hasDictIn K E_11 = true)
    (tyE_11 : PySem.W.typeIn K (.ref E_11) = some (.type "type"))
    (exE_11 : PySem.W.subIn K (.ref E_11) (.type "BaseException") = some true)
    (kpE_11 : PySem.W.keepIn K (.ref E_11) = true)
    (aE_12 : PySem.W.nsIn K mainGlobals "NameFault" = some (some (.ref E_12)))
    (hdE_12 : PySem.W.hasDictIn K E_12 = true)
    (tyE_12 : PySem.W.typeIn K (.ref E_12) = some (.type "type"))
    (exE_12 : PySem.W.subIn K (.ref E_12) (.type "BaseException") = some true)
    (kpE_12 : PySem.W.keepIn K (.ref E_12) = true)
    (aE_13 : PySem.W.nsIn K mainGlobals "LineError" = some (some (.ref E_13)))
    (hdE_13 : PySem.W.hasDictIn K E_13 = true)
    (tyE_13 : PySem.W.typeIn K (.ref E_13) = some (.type "type"))
    (aE_14 : PySem.W.nsIn K mainGlobals "CountsError" = some (some (.ref E_14)))
    (hdE_14 : PySem.W.hasDictIn K E_14 = true)
    (tyE_14 : PySem.W.typeIn K (.ref E_14) = some (.type "type"))
    (aE_15 : PySem.W.nsIn K mainGlobals "LimitError" = some (some (.ref E_15)))
    (hdE_15 : PySem.W.hasDictIn K E_15 = true)
    (tyE_15 : PySem.W.typeIn K (.ref E_15) = some (.type "type"))
    (exE_15 : PySem.W.subIn K (.ref E_15) (.type "BaseException") = some true)
    (kpE_15 : PySem.W.keepIn K (.ref E_15) = true)
    (aE_16 : PySem.W.nsIn K mainGlobals "TooManyStates" = some (some (.ref E_16)))
    (hdE_16 : PySem.W.hasDictIn K E_16 = true)
    (tyE_16 : PySem.W.typeIn K (.ref E_16) = some (.type "type"))
    (aE_17 : PySem.W.nsIn K mainGlobals "TooManyActions" = some (some (.ref E_17)))
    (hdE_17 : PySem.W.hasDictIn K E_17 = true)
    (tyE_17 : PySem.W.typeIn K (.ref E_17) = some (.type "type"))
    (aE_18 : PySem.W.nsIn K mainGlobals "TooManyRows" = some (some (.ref E_18)))
    (hdE_18 : PySem.W.hasDictIn K E_18 = true)
    (tyE_18 : PySem.W.typeIn K (.ref E_18) = some (.type "type"))
    (s_8_1 : PySem.W.subIn K (.ref E_8) (.ref E_1) = some true)
    (s_8_2 : PySem.W.subIn K (.ref E_8) (.ref E_2) = some false)
    (s_8_3 : PySem.W.subIn K (.ref E_8) (.ref E_3) = some false)
    (s_8_4 : PySem.W.subIn K (.ref E_8) (.ref E_4) = some false)
    (s_8_5 : PySem.W.subIn K (.ref E_8) (.ref E_5) = some false)
    (s_8_6 : PySem.W.subIn K (.ref E_8) (.ref E_6) = some false)
    (s_8_7 : PySem.W.subIn K (.ref E_8) (.ref E_7) = some false)
    (s_8_8 : PySem.W.subIn K (.ref E_8) (.ref E_8) = some true)
    (s_8_9 : PySem.W.subIn K (.ref E_8) (.ref E_9) = some false)
    (s_8_10 : PySem.W.subIn K (.ref E_8) (.ref E_10) = some false)
    (s_8_11 : PySem.W.subIn K (.ref E_8) (.ref E_11) = some false)
    (s_8_12 : PySem.W.subIn K (.ref E_8) (.ref E_12) = some false)
    (s_8_13 : PySem.W.subIn K (.ref E_8) (.ref E_13) = some false)
    (s_8_14 : PySem.W.subIn K (.ref E_8) (.ref E_14) = some false)
    (s_8_15 : PySem.W.subIn K (.ref E_8) (.ref E_15) = some false)
    (s_8_16 : PySem.W.subIn K (.ref E_8) (.ref E_16) = some false)
    (s_8_17 : PySem.W.subIn K (.ref E_8) (.ref E_17) = some false)
    (s_8_18 : PySem.W.subIn K (.ref E_8) (.ref E_18) = some false)
    (sv_8 : PySem.W.subIn K (.ref E_8) (.type "ValueError") = some true)
    (ga_8 : PySem.W.findIn K (.ref E_8) "__getattribute__" = some (some (.builtin "BaseException.__getattribute__")))
    (gg_8 : PySem.W.findIn K (.ref E_8) "__getattr__" = some none)
    (gc_8 : PySem.W.findIn K (.ref E_8) "__class__" = some (some (.builtin "object.__class__")))
    (mo_8 : PySem.W.mroIn K E_8 (.type "object") = some true)
    (s_11_1 : PySem.W.subIn K (.ref E_11) (.ref E_1) = some true)
    (s_11_2 : PySem.W.subIn K (.ref E_11) (.ref E_2) = some false)
    (s_11_3 : PySem.W.subIn K (.ref E_11) (.ref E_3) = some false)
    (s_11_4 : PySem.W.subIn K (.ref E_11) (.ref E_4) = some false)
    (s_11_5 : PySem.W.subIn K (.ref E_11) (.ref E_5) = some false)
    (s_11_6 : PySem.W.subIn K (.ref E_11) (.ref E_6) = some false)
    (s_11_7 : PySem.W.subIn K (.ref E_11) (.ref E_7) = some false)
    (s_11_8 : PySem.W.subIn K (.ref E_11) (.ref E_8) = some false)
    (s_11_9 : PySem.W.subIn K (.ref E_11) (.ref E_9) = some false)
    (s_11_10 : PySem.W.subIn K (.ref E_11) (.ref E_10) = some false)
    (s_11_11 : PySem.W.subIn K (.ref E_11) (.ref E_11) = some true)
    (s_11_12 : PySem.W.subIn K (.ref E_11) (.ref E_12) = some false)
    (s_11_13 : PySem.W.subIn K (.ref E_11) (.ref E_13) = some false)
    (s_11_14 : PySem.W.subIn K (.ref E_11) (.ref E_14) = some false)
    (s_11_15 : PySem.W.subIn K (.ref E_11) (.ref E_15) = some false)
    (s_11_16 : PySem.W.subIn K (.ref E_11) (.ref E_16) = some false)
    (s_11_17 : PySem.W.subIn K (.ref E_11) (.ref E_17) = some false)
    (s_11_18 : PySem.W.subIn K (.ref E_11) (.ref E_18) = some false)
    (sv_11 : PySem.W.subIn K (.ref E_11) (.type "ValueError") = some true)
    (ga_11 : PySem.W.findIn K (.ref E_11) "__getattribute__" = some (some (.builtin "BaseException.__getattribute__")))
    (gg_11 : PySem.W.findIn K (.ref E_11) "__getattr__" = some none)
    (gc_11 : PySem.W.findIn K (.ref E_11) "__class__" = some (some (.builtin "object.__class__")))
    (mo_11 : PySem.W.mroIn K E_11 (.type "object") = some true)
    (s_12_1 : PySem.W.subIn K (.ref E_12) (.ref E_1) = some true)
    (s_12_2 : PySem.W.subIn K (.ref E_12) (.ref E_2) = some false)
    (s_12_3 : PySem.W.subIn K (.ref E_12) (.ref E_3) = some false)
    (s_12_4 : PySem.W.subIn K (.ref E_12) (.ref E_4) = some false)
    (s_12_5 : PySem.W.subIn K (.ref E_12) (.ref E_5) = some false)
    (s_12_6 : PySem.W.subIn K (.ref E_12) (.ref E_6) = some false)
    (s_12_7 : PySem.W.subIn K (.ref E_12) (.ref E_7) = some false)
    (s_12_8 : PySem.W.subIn K (.ref E_12) (.ref E_8) = some false)
    (s_12_9 : PySem.W.subIn K (.ref E_12) (.ref E_9) = some false)
    (s_12_10 : PySem.W.subIn K (.ref E_12) (.ref E_10) = some false)
    (s_12_11 : PySem.W.subIn K (.ref E_12) (.ref E_11) = some false)
    (s_12_12 : PySem.W.subIn K (.ref E_12) (.ref E_12) = some true)
    (s_12_13 : PySem.W.subIn K (.ref E_12) (.ref E_13) = some false)
    (s_12_14 : PySem.W.subIn K (.ref E_12) (.ref E_14) = some false)
    (s_12_15 : PySem.W.subIn K (.ref E_12) (.ref E_15) = some false)
    (s_12_16 : PySem.W.subIn K (.ref E_12) (.ref E_16) = some false)
    (s_12_17 : PySem.W.subIn K (.ref E_12) (.ref E_17) = some false)
    (s_12_18 : PySem.W.subIn K (.ref E_12) (.ref E_18) = some false)
    (sv_12 : PySem.W.subIn K (.ref E_12) (.type "ValueError") = some true)
    (ga_12 : PySem.W.findIn K (.ref E_12) "__getattribute__" = some (some (.builtin "BaseException.__getattribute__")))
    (gg_12 : PySem.W.findIn K (.ref E_12) "__getattr__" = some none)
    (gc_12 : PySem.W.findIn K (.ref E_12) "__class__" = some (some (.builtin "object.__class__")))
    (mo_12 : PySem.W.mroIn K E_12 (.type "object") = some true)
    (s_15_1 : PySem.W.subIn K (.ref E_15) (.ref E_1) = some true)
    (s_15_2 : PySem.W.subIn K (.ref E_15) (.ref E_2) = some false)
    (s_15_3 : PySem.W.subIn K (.ref E_15) (.ref E_3) = some false)
    (s_15_4 : PySem.W.subIn K (.ref E_15) (.ref E_4) = some false)
    (s_15_5 : PySem.W.subIn K (.ref E_15) (.ref E_5) = some false)
    (s_15_6 : PySem.W.subIn K (.ref E_15) (.ref E_6) = some false)
    (s_15_7 : PySem.W.subIn K (.ref E_15) (.ref E_7) = some false)
    (s_15_8 : PySem.W.subIn K (.ref E_15) (.ref E_8) = some false)
    (s_15_9 : PySem.W.subIn K (.ref E_15) (.ref E_9) = some false)
    (s_15_10 : PySem.W.subIn K (.ref E_15) (.ref E_10) = some false)
    (s_15_11 : PySem.W.subIn K (.ref E_15) (.ref E_11) = some false)
    (s_15_12 : PySem.W.subIn K (.ref E_15) (.ref E_12) = some false)
    (s_15_13 : PySem.W.subIn K (.ref E_15) (.ref E_13) = some false)
    (s_15_14 : PySem.W.subIn K (.ref E_15) (.ref E_14) = some false)
    (s_15_15 : PySem.W.subIn K (.ref E_15) (.ref E_15) = some true)
    (s_15_16 : PySem.W.subIn K (.ref E_15) (.ref E_16) = some false)
    (s_15_17 : PySem.W.subIn K (.ref E_15) (.ref E_17) = some false)
    (s_15_18 : PySem.W.subIn K (.ref E_15) (.ref E_18) = some false)
    (sv_15 : PySem.W.subIn K (.ref E_15) (.type "ValueError") = some true)
    (ga_15 : PySem.W.findIn K (.ref E_15) "__getattribute__" = some (some (.builtin "BaseException.__getattribute__")))
    (gg_15 : PySem.W.findIn K (.ref E_15) "__getattr__" = some none)
    (gc_15 : PySem.W.findIn K (.ref E_15) "__class__" = some (some (.builtin "object.__class__")))
    (mo_15 : PySem.W.mroIn K E_15 (.type "object") = some true)
    (gsC : PySem.W.specialIn K (.builtin "object.__class__") "__get__" = some (some (.builtin "getset_descriptor.__get__")))
    (tkC : PySem.W.takesIn K (.builtin "object.__class__") = some true)
    (xL_8 : K.lookup E_8 = some (excClassObj nm_8 q_8 E_8 N_8 bs_8 bm_8 true sn_8 sub_8 ab_8 col_8 dd_8 k0_8 k1_8 k2_8 k3_8 k5_8 "ValueError.__new__"))
    (rv_8 : HandSPX.refsVE bm_8 = true)
    (xsa_8 : PySem.W.findIn K (.ref E_8) "__setattr__" = some (some (.builtin "object.__setattr__")))
    (xno_8 : PySem.W.findIn K (.ref E_8) "state" = some none)
    (xi_8 : PySem.W.findIn K (.ref E_8) "__init__" = some (some (.ref I_8)))
    (xt_8 : PySem.W.typeIn K (.ref I_8) = some (.type "function"))
    (xl_8 : K.lookup I_8 = some ⟨xoc_8, xd_8, .func (PySem.W.ksFn "__init__" qu_8 (PySem.XM.xA "state" r1_8 r2_8) (PySem.XM.xB "state" ms_8 j_8 p0_8 p1_8 p2_8 p3_8 p4_8 p5_8 q1_8 q2_8 q3_8 q4_8) (PySem.XM.xS "state") .none .none xdoc_8 xpm_8 xa_8 (.ref cda_8) xct_8 cc_8), xsl_8⟩)
    (xco_8 : PySem.W.codeIn K (.ref cda_8) qu_8 = true)
    (xpe_8 : (p2_8.endLine == p4_8.line) = true)
    (xcd_8 : K.lookup cda_8 = some ⟨ccl_8, cdd_8, .fields vs_8, ccs_8⟩)
    (xv2_8 : vs_8[2]? = some (.str fi_8 tf_8))
    (xfi_8 : ((l.prog.main.file : Str) == fi_8) = true)
    (xce_8 : K.lookup cc_8 = some ⟨cl_8, cld_8, .cell (some (.ref E_8)), csl_8⟩)
    (xci_8 : PySem.W.clsIn K E_8 = some cdD_8)
    (xmr_8 : PySem.W.mroIn K E_8 (.ref E_8) = some true)
    (xsu_8 : PySem.W.ks_superIn K E_8 E_8 "__init__" = some (some (.builtin "ValueError.__init__")))
    (xL_11 : K.lookup E_11 = some (excClassObj nm_11 q_11 E_11 N_11 bs_11 bm_11 true sn_11 sub_11 ab_11 col_11 dd_11 k0_11 k1_11 k2_11 k3_11 k5_11 "ValueError.__new__"))
    (rv_11 : HandSPX.refsVE bm_11 = true)
    (xsa_11 : PySem.W.findIn K (.ref E_11) "__setattr__" = some (some (.builtin "object.__setattr__")))
    (xno_11 : PySem.W.findIn K (.ref E_11) "index" = some none)
    (xi_11 : PySem.W.findIn K (.ref E_11) "__init__" = some (some (.ref I_11)))
    (xt_11 : PySem.W.typeIn K (.ref I_11) = some (.type "function"))
    (xl_11 : K.lookup I_11 = some ⟨xoc_11, xd_11, .func (PySem.W.ksFn "__init__" qu_11 (PySem.XM.xA "index" r1_11 r2_11) (PySem.XM.xB "index" ms_11 j_11 p0_11 p1_11 p2_11 p3_11 p4_11 p5_11 q1_11 q2_11 q3_11 q4_11) (PySem.XM.xS "index") .none .none xdoc_11 xpm_11 xa_11 (.ref cda_11) xct_11 cc_11), xsl_11⟩)
    (xco_11 : PySem.W.codeIn K (.ref cda_11) qu_11 = true)
    (xpe_11 : (p2_11.endLine == p4_11.line) = true)
    (xcd_11 : K.lookup cda_11 = some ⟨ccl_11, cdd_11, .fields vs_11, ccs_11⟩)
    (xv2_11 : vs_11[2]? = some (.str fi_11 tf_11))
    (xfi_11 : ((l.prog.main.file : Str) == fi_11) = true)
    (xce_11 : K.lookup cc_11 = some ⟨cl_11, cld_11, .cell (some (.ref E_11)), csl_11⟩)
    (xci_11 : PySem.W.clsIn K E_11 = some cdD_11)
    (xmr_11 : PySem.W.mroIn K E_11 (.ref E_11) = some true)
    (xsu_11 : PySem.W.ks_superIn K E_11 E_11 "__init__" = some (some (.builtin "ValueError.__init__")))
    (xL_12 : K.lookup E_12 = some (excClassObj nm_12 q_12 E_12 N_12 bs_12 bm_12 true sn_12 sub_12 ab_12 col_12 dd_12 k0_12 k1_12 k2_12 k3_12 k5_12 "ValueError.__new__"))
    (rv_12 : HandSPX.refsVE bm_12 = true)
    (xsa_12 : PySem.W.findIn K (.ref E_12) "__setattr__" = some (some (.builtin "object.__setattr__")))
    (xno_12 : PySem.W.findIn K (.ref E_12) "name" = some none)
    (xi_12 : PySem.W.findIn K (.ref E_12) "__init__" = some (some (.ref I_12)))
    (xt_12 : PySem.W.typeIn K (.ref I_12) = some (.type "function"))
    (xl_12 : K.lookup I_12 = some ⟨xoc_12, xd_12, .func (PySem.W.ksFn "__init__" qu_12 (PySem.XM.xA "name" r1_12 r2_12) (PySem.XM.xB "name" ms_12 j_12 p0_12 p1_12 p2_12 p3_12 p4_12 p5_12 q1_12 q2_12 q3_12 q4_12) (PySem.XM.xS "name") .none .none xdoc_12 xpm_12 xa_12 (.ref cda_12) xct_12 cc_12), xsl_12⟩)
    (xco_12 : PySem.W.codeIn K (.ref cda_12) qu_12 = true)
    (xpe_12 : (p2_12.endLine == p4_12.line) = true)
    (xcd_12 : K.lookup cda_12 = some ⟨ccl_12, cdd_12, .fields vs_12, ccs_12⟩)
    (xv2_12 : vs_12[2]? = some (.str fi_12 tf_12))
    (xfi_12 : ((l.prog.main.file : Str) == fi_12) = true)
    (xce_12 : K.lookup cc_12 = some ⟨cl_12, cld_12, .cell (some (.ref E_12)), csl_12⟩)
    (xci_12 : PySem.W.clsIn K E_12 = some cdD_12)
    (xmr_12 : PySem.W.mroIn K E_12 (.ref E_12) = some true)
    (xsu_12 : PySem.W.ks_superIn K E_12 E_12 "__init__" = some (some (.builtin "ValueError.__init__")))
    (xL_15 : K.lookup E_15 = some (excClassObj nm_15 q_15 E_15 N_15 bs_15 bm_15 true sn_15 sub_15 ab_15 col_15 dd_15 k0_15 k1_15 k2_15 k3_15 k5_15 "ValueError.__new__"))
    (rv_15 : HandSPX.refsVE bm_15 = true)
    (xsa_15 : PySem.W.findIn K (.ref E_15) "__setattr__" = some (some (.builtin "object.__setattr__")))
    (xno_15 : PySem.W.findIn K (.ref E_15) "limit" = some none)
    (xi_15 : PySem.W.findIn K (.ref E_15) "__init__" = some (some (.ref I_15)))
    (xt_15 : PySem.W.typeIn K (.ref I_15) = some (.type "function"))
    (xl_15 : K.lookup I_15 = some ⟨xoc_15, xd_15, .func (PySem.W.ksFn "__init__" qu_15 (PySem.XM.xA "limit" r1_15 r2_15) (PySem.XM.xB "limit" ms_15 j_15 p0_15 p1_15 p2_15 p3_15 p4_15 p5_15 q1_15 q2_15 q3_15 q4_15) (PySem.XM.xS "limit") .none .none xdoc_15 xpm_15 xa_15 (.ref cda_15) xct_15 cc_15), xsl_15⟩)
    (xco_15 : PySem.W.codeIn K (.ref cda_15) qu_15 = true)
    (xpe_15 : (p2_15.endLine == p4_15.line) = true)
    (xcd_15 : K.lookup cda_15 = some ⟨ccl_15, cdd_15, .fields vs_15, ccs_15⟩)
    (xv2_15 : vs_15[2]? = some (.str fi_15 tf_15))
    (xfi_15 : ((l.prog.main.file : Str) == fi_15) = true)
    (xce_15 : K.lookup cc_15 = some ⟨cl_15, cld_15, .cell (some (.ref E_15)), csl_15⟩)
    (xci_15 : PySem.W.clsIn K E_15 = some cdD_15)
    (xmr_15 : PySem.W.mroIn K E_15 (.ref E_15) = some true)
    (xsu_15 : PySem.W.ks_superIn K E_15 E_15 "__init__" = some (some (.builtin "ValueError.__init__")))
    (xthi : PySem.W.nsIn K cStatics "thirdparty.any" = some none)
    (xtop : (l.prog.main.scope.names.lookup ("super" : Str)).isSome = false)
    (aD_B : PySem.W.nsIn K mainGlobals "BINDING" = some (some (.ref D_B)))
    (aD_P : PySem.W.nsIn K mainGlobals "PARTS" = some (some (.ref D_P)))
    (lD_B : K.lookup D_B = some ⟨.type "dict", none, .dict es_B n_B, #[]⟩)
    (lD_P : K.lookup D_P = some ⟨.type "dict", none, .dict es_P n_P, #[]⟩)
    (kD_B : PySem.W.KeysLit w.params es_B.toList)
    (kD_P : PySem.W.KeysLit w.params es_P.toList)
    (loD_P : (D_P == sysModules) = false)
    (hB0 : PySem.W.nsIn K D_B "(" = some (some (.int 0 tb0)))
    (hB1 : PySem.W.nsIn K D_B "|" = some (some (.int 1 tb1)))
    (hB2 : PySem.W.nsIn K D_B "&" = some (some (.int 2 tb2)))
    (hB3 : PySem.W.nsIn K D_B "+" = some (some (.int 3 tb3)))
    (hB4 : PySem.W.nsIn K D_B "~" = some (some (.int 4 tb4)))
    (hP0 : PySem.W.nsIn K D_P "empty" = some (some (.int 0 tp0)))
    (hP1 : PySem.W.nsIn K D_P "not" = some (some (.int 1 tp1)))
    (hP2 : PySem.W.nsIn K D_P "again" = some (some (.int 1 tp2)))
    (hP3 : PySem.W.nsIn K D_P "then" = some (some (.int 2 tp3)))
    (a_ji : PySem.W.findIn K (.ref C_J) "__init__" = some (some (.ref f_ji)))
    (i_ji : PySem.W.isFn K (.ref f_ji) = true)
    (l_ji : K.lookup f_ji = some ⟨oc_ji, od_ji, .func (PySem.W.fnOf "__init__" "Journal.__init__" (defArgs sJInit) (defBody sJInit) (defScope sJInit) (.ref dt_ji) kV_ji dc_ji pm_ji an_ji cd_ji ct_ji), sl_ji⟩)
    (c_ji : PySem.W.codeIn K cd_ji "Journal.__init__" = true)
    (k_ji : PySem.W.keepIn K (.ref f_ji) = true)
    (d_ji : K.lookup dt_ji = some ⟨dcl_ji, ddx_ji, .seq #[.int 20 tk_ji] n_ji, dsl_ji⟩)
    (fi_bget : PySem.W.fnIn K f_bget = true)
    (ha_P : PySem.W.findIn K (.ref C_P) "__class__" = some (some (.builtin "object.__class__")))
    (hm_P : PySem.W.mroIn K C_P (.type "object") = some true)
    (ty_P : PySem.W.typeIn K (.ref C_P) = some (.type "type"))
    (ss_P : PySem.W.subIn K (.ref C_P) (.ref C_P) = some true)
    (a_bi : PySem.W.findIn K (.ref C_B) "__init__" = some (some (.ref f_bi)))
    (i_bi : PySem.W.isFn K (.ref f_bi) = true)
    (l_bi : K.lookup f_bi = some ⟨oc_bi, od_bi, .func (PySem.W.fnOf "__init__" "Book.__init__" (defArgs sBInit) (defBody sBInit) (defScope sBInit) (.ref dt_bi) kV_bi dc_bi pm_bi an_bi cd_bi ct_bi), sl_bi⟩)
    (c_bi : PySem.W.codeIn K cd_bi "Book.__init__" = true)
    (k_bi : PySem.W.keepIn K (.ref f_bi) = true)
    (d_bi : K.lookup dt_bi = some ⟨dcl_bi, ddx_bi, .seq #[.int 20 tk_bi] n_bi, dsl_bi⟩)
    (a_rm : PySem.W.findIn K (.ref C_B) "room" = some (some (.ref p_rm)))
    (g_rmg : PySem.W.specialIn K (.ref p_rm) "__get__" = some (some (.builtin "property.__get__")))
    (t_rm : PySem.W.takesIn K (.ref p_rm) = some true)
    (r_rm : PySem.W.recIn K p_rm "property" = some (.ref g_rm :: rest_rm))
    (l_rm : K.lookup g_rm = some ⟨oc_rm, od_rm, .func (PySem.W.fnOf "room" "Book.room" (defArgs sBRoom) (defBody sBRoom) (defScope sBRoom) .none kV_rm dc_rm pm_rm an_rm cd_rm ct_rm), sl_rm⟩)
    (c_rm : PySem.W.codeIn K cd_rm "Book.room" = true)
    (k_rm : PySem.W.keepIn K (.ref g_rm) = true)
    (gf_put : PySem.W.specialIn K (.ref f_put) "__get__" = some (some (.builtin "function.__get__")))
    (tk_put : PySem.W.takesIn K (.ref f_put) = some false)
    (fi_put : PySem.W.fnIn K f_put = true)
    (nsq_B : PySem.W.noSeq K C_B = true)
    (ha_B : PySem.W.findIn K (.ref C_B) "__class__" = some (some (.builtin "object.__class__")))
    (hm_B : PySem.W.mroIn K C_B (.type "object") = some true)
    (ty_B : PySem.W.typeIn K (.ref C_B) = some (.type "type"))
    (ss_B : PySem.W.subIn K (.ref C_B) (.ref C_B) = some true)
    : ∃ fd : FuncData, (∀ (s : Shared) (v : Value), BindsTo s fd ⟨[v], []⟩ [("script", v)]) ∧ ∀ base : Heap, K.In base → base.Ns mainGlobals mg → FnOk l.prog w K mg base CX0 15 fa fd ["script"] (spLaw K) := by
  have e := hfa.symm.trans (PySem.W.mg_of X G a_law)
  cases e
  have F_checkL := fun_mk (st := sCheckL) l_checkL c_checkL k_checkL
  have b_checkL := F_checkL.binds (ps := ["letters"]) fun _ _ _ _ _ _ us hl => match us, hl with | [_], _ => rfl
  have m_checkL := PySem.W.mg_of X G a_checkL
  have F_fits := fun_mk (st := sFits) l_fits c_fits k_fits
  have b_fits := F_fits.binds (ps := ["row", "at", "letters"]) fun _ _ _ _ _ _ us hl => match us, hl with | [_, _, _], _ => rfl
  have m_fits := PySem.W.mg_of X G a_fits
  have F_pinit := fun_mk (st := sPInit) l_pinit c_pinit k_pinit
  have b_pinit := F_pinit.binds (ps := ["self", "letters", "rows"]) fun _ _ _ _ _ _ us hl => match us, hl with | [_, _, _], _ => rfl
  have me_pinit : Meth K C_P "__init__" f_pinit := ⟨a_pinit, i_pinit, k_pinit⟩
  have F_rinit := fun_mk (st := sRInit) l_rinit c_rinit k_rinit
  have b_rinit := F_rinit.binds (ps := ["self", "letters"]) fun _ _ _ _ _ _ us hl => match us, hl with | [_, _], _ => rfl
  have me_rinit : Meth K C_R "__init__" f_rinit := ⟨a_rinit, i_rinit, k_rinit⟩
  have F_put := fun_mk (st := sPut) l_put c_put k_put
  have me_put : Meth K C_R "put" f_put := ⟨a_put, i_put, k_put⟩
  have F_comb := fun_mk (st := sCombine) l_comb c_comb k_comb
  have b_comb := F_comb.binds (ps := ["self"]) fun _ _ _ _ _ _ us hl => match us, hl with | [_], _ => rfl
  have me_comb : Meth K C_R "combine" f_comb := ⟨a_comb, i_comb, k_comb⟩
  have F_down := fun_mk (st := sDown) l_down c_down k_down
  have b_down := F_down.binds (ps := ["self", "binding"]) fun _ _ _ _ _ _ us hl => match us, hl with | [_, _], _ => rfl
  have me_down : Meth K C_R "combine_down_to" f_down := ⟨a_down, i_down, k_down⟩
  have F_wait := fun_mk (st := sWait) l_wait c_wait k_wait
  have b_wait := F_wait.binds (ps := ["self", "sign"]) fun _ _ _ _ _ _ us hl => match us, hl with | [_, _], _ => rfl
  have me_wait : Meth K C_R "wait" f_wait := ⟨a_wait, i_wait, k_wait⟩
  have F_beg := fun_mk (st := sBegin) l_beg c_beg k_beg
  have b_beg := F_beg.binds (ps := ["self", "char"]) fun _ _ _ _ _ _ us hl => match us, hl with | [_, _], _ => rfl
  have me_beg : Meth K C_R "begin" f_beg := ⟨a_beg, i_beg, k_beg⟩
  have F_close := fun_mk (st := sClose) l_close c_close k_close
  have b_close := F_close.binds (ps := ["self", "index"]) fun _ _ _ _ _ _ us hl => match us, hl with | [_, _], _ => rfl
  have me_close : Meth K C_R "close" f_close := ⟨a_close, i_close, k_close⟩
  have F_take := fun_mk (st := sTake) l_take c_take k_take
  have b_take := F_take.binds (ps := ["self", "index", "char"]) fun _ _ _ _ _ _ us hl => match us, hl with | [_, _, _], _ => rfl
  have me_take : Meth K C_R "take" f_take := ⟨a_take, i_take, k_take⟩
  have F_read := fun_mk (st := sRead) l_read c_read k_read
  have b_read := F_read.binds (ps := ["text", "letters"]) fun _ _ _ _ _ _ us hl => match us, hl with | [_, _], _ => rfl
  have m_read := PySem.W.mg_of X G a_read
  have F_name := fun_mk (st := sName) l_name c_name k_name
  have b_name := F_name.binds (ps := ["name"]) fun _ _ _ _ _ _ us hl => match us, hl with | [_], _ => rfl
  have m_name := PySem.W.mg_of X G a_name
  have F_roomC := fun_mk (st := sRoomC) l_roomC c_roomC k_roomC
  have b_roomC := F_roomC.binds (ps := ["room", "least"]) fun _ _ _ _ _ _ us hl => match us, hl with | [_, _], _ => rfl
  have m_roomC := PySem.W.mg_of X G a_roomC
  have F_blen := fun_mk (st := sBLen) l_blen c_blen k_blen
  have b_blen := F_blen.binds (ps := ["self"]) fun _ _ _ _ _ _ us hl => match us, hl with | [_], _ => rfl
  have me_blen : Meth K C_B "__len__" f_blen := ⟨a_blen, i_blen, k_blen⟩
  have F_biter := fun_mk (st := sBIter) l_biter c_biter k_biter
  have b_biter := F_biter.binds (ps := ["self"]) fun _ _ _ _ _ _ us hl => match us, hl with | [_], _ => rfl
  have me_biter : Meth K C_B "__iter__" f_biter := ⟨a_biter, i_biter, k_biter⟩
  have F_bin := fun_mk (st := sBIn) l_bin c_bin k_bin
  have b_bin := F_bin.binds (ps := ["self", "name"]) fun _ _ _ _ _ _ us hl => match us, hl with | [_, _], _ => rfl
  have me_bin : Meth K C_B "__contains__" f_bin := ⟨a_bin, i_bin, k_bin⟩
  have F_bset := fun_mk (st := sBSet) l_bset c_bset k_bset
  have b_bset := F_bset.binds (ps := ["self", "name", "text"]) fun _ _ _ _ _ _ us hl => match us, hl with | [_, _, _], _ => rfl
  have me_bset : Meth K C_B "__setitem__" f_bset := ⟨a_bset, i_bset, k_bset⟩
  have F_bdrop := fun_mk (st := sBDrop) l_bdrop c_bdrop k_bdrop
  have b_bdrop := F_bdrop.binds (ps := ["self", "name"]) fun _ _ _ _ _ _ us hl => match us, hl with | [_, _], _ => rfl
  have me_bdrop : Meth K C_B "drop" f_bdrop := ⟨a_bdrop, i_bdrop, k_bdrop⟩
  have F_bwr := fun_mk (st := sBWritten) l_bwr c_bwr k_bwr
  have b_bwr := F_bwr.binds (ps := ["self"]) fun _ _ _ _ _ _ us hl => match us, hl with | [_], _ => rfl
  have me_bwr : Meth K C_B "written" f_bwr := ⟨a_bwr, i_bwr, k_bwr⟩
  have F_bget := fun_mk (st := sBGet) l_bget c_bget k_bget
  have b_bget := F_bget.binds (ps := ["self", "name"]) fun _ _ _ _ _ _ us hl => match us, hl with | [_, _], _ => rfl
  have me_bget : Meth K C_B "__getitem__" f_bget := ⟨a_bget, i_bget, k_bget⟩
  have F_peq := fun_mk (st := sPEq) l_peq c_peq k_peq
  have b_peq := F_peq.binds (ps := ["self", "other"]) fun _ _ _ _ _ _ us hl => match us, hl with | [_, _], _ => rfl
  have me_peq : Meth K C_P "__eq__" f_peq := ⟨a_peq, i_peq, k_peq⟩
  have F_renamed := fun_mk (st := sRenamed) l_renamed c_renamed k_renamed
  have b_renamed := F_renamed.binds (ps := ["book", "old", "new"]) fun _ _ _ _ _ _ us hl => match us, hl with | [_, _, _], _ => rfl
  have m_renamed := PySem.W.mg_of X G a_renamed
  have F_stepped := fun_mk (st := sStepped) l_stepped c_stepped k_stepped
  have b_stepped := F_stepped.binds (ps := ["book", "step"]) fun _ _ _ _ _ _ us hl => match us, hl with | [_, _], _ => rfl
  have m_stepped := PySem.W.mg_of X G a_stepped
  have F_jlen := fun_mk (st := sJLen) l_jlen c_jlen k_jlen
  have b_jlen := F_jlen.binds (ps := ["self"]) fun _ _ _ _ _ _ us hl => match us, hl with | [_], _ => rfl
  have me_jlen : Meth K C_J "__len__" f_jlen := ⟨a_jlen, i_jlen, k_jlen⟩
  have F_jat := fun_mk (st := sJAt) l_jat c_jat k_jat
  have b_jat := F_jat.binds (ps := ["self", "count"]) fun _ _ _ _ _ _ us hl => match us, hl with | [_, _], _ => rfl
  have me_jat : Meth K C_J "book_at" f_jat := ⟨a_jat, i_jat, k_jat⟩
  have F_jbook := fun_mk (st := sJBook) l_jbook c_jbook k_jbook
  have b_jbook := F_jbook.binds (ps := ["self"]) fun _ _ _ _ _ _ us hl => match us, hl with | [_], _ => rfl
  have me_jbook : Meth K C_J "book" f_jbook := ⟨a_jbook, i_jbook, k_jbook⟩
  have F_jmake := fun_mk (st := sJMake) l_jmake c_jmake k_jmake
  have b_jmake := F_jmake.binds (ps := ["self", "step"]) fun _ _ _ _ _ _ us hl => match us, hl with | [_, _], _ => rfl
  have me_jmake : Meth K C_J "make" f_jmake := ⟨a_jmake, i_jmake, k_jmake⟩
  have F_jnote := fun_mk (st := sJNote) l_jnote c_jnote k_jnote
  have b_jnote := F_jnote.binds (ps := ["self", "name", "text"]) fun _ _ _ _ _ _ us hl => match us, hl with | [_, _, _], _ => rfl
  have me_jnote : Meth K C_J "note" f_jnote := ⟨a_jnote, i_jnote, k_jnote⟩
  have F_jstrike := fun_mk (st := sJStrike) l_jstrike c_jstrike k_jstrike
  have b_jstrike := F_jstrike.binds (ps := ["self", "name"]) fun _ _ _ _ _ _ us hl => match us, hl with | [_, _], _ => rfl
  have me_jstrike : Meth K C_J "strike" f_jstrike := ⟨a_jstrike, i_jstrike, k_jstrike⟩
  have F_jren := fun_mk (st := sJRen) l_jren c_jren k_jren
  have b_jren := F_jren.binds (ps := ["self", "old", "new"]) fun _ _ _ _ _ _ us hl => match us, hl with | [_, _, _], _ => rfl
  have me_jren : Meth K C_J "rename" f_jren := ⟨a_jren, i_jren, k_jren⟩
  have F_jundo := fun_mk (st := sJUndo) l_jundo c_jundo k_jundo
  have b_jundo := F_jundo.binds (ps := ["self"]) fun _ _ _ _ _ _ us hl => match us, hl with | [_], _ => rfl
  have me_jundo : Meth K C_J "undo" f_jundo := ⟨a_jundo, i_jundo, k_jundo⟩
  have F_jredo := fun_mk (st := sJRedo) l_jredo c_jredo k_jredo
  have b_jredo := F_jredo.binds (ps := ["self"]) fun _ _ _ _ _ _ us hl => match us, hl with | [_], _ => rfl
  have me_jredo : Meth K C_J "redo" f_jredo := ⟨a_jredo, i_jredo, k_jredo⟩
  have F_new := fun_mk (st := sNew) l_new c_new k_new
  have b_new := F_new.binds (ps := ["script"]) fun _ _ _ _ _ _ us hl => match us, hl with | [_], _ => rfl
  have m_new := PySem.W.mg_of X G a_new
  have F_draw := fun_mk (st := sDraw) l_draw c_draw k_draw
  have b_draw := F_draw.binds (ps := ["state", "many"]) fun _ _ _ _ _ _ us hl => match us, hl with | [_, _], _ => rfl
  have m_draw := PySem.W.mg_of X G a_draw
  have F_same := fun_mk (st := sSame) l_same c_same k_same
  have b_same := F_same.binds (ps := ["actual", "expected"]) fun _ _ _ _ _ _ us hl => match us, hl with | [_, _], _ => rfl
  have m_same := PySem.W.mg_of X G a_same
  have F_letters := fun_mk (st := sLetters) l_letters c_letters k_letters
  have b_letters := F_letters.binds (ps := ["state", "most"]) fun _ _ _ _ _ _ us hl => match us, hl with | [_, _], _ => rfl
  have m_letters := PySem.W.mg_of X G a_letters
  have F_classes := fun_mk (st := sClasses) l_classes c_classes k_classes
  have b_classes := F_classes.binds (ps := ["e"]) fun _ _ _ _ _ _ us hl => match us, hl with | [_], _ => rfl
  have m_classes := PySem.W.mg_of X G a_classes
  have F_lname := fun_mk (st := sLName) l_lname c_lname k_lname
  have b_lname := F_lname.binds (ps := ["state"]) fun _ _ _ _ _ _ us hl => match us, hl with | [_], _ => rfl
  have m_lname := PySem.W.mg_of X G a_lname
  have F_named := fun_mk (st := sNamed) l_named c_named k_named
  have b_named := F_named.binds (ps := ["name"]) fun _ _ _ _ _ _ us hl => match us, hl with | [_], _ => rfl
  have m_named := PySem.W.mg_of X G a_named
  have F_some := fun_mk (st := sSome) l_some c_some k_some
  have b_some := F_some.binds (ps := ["state", "names"]) fun _ _ _ _ _ _ us hl => match us, hl with | [_, _], _ => rfl
  have m_some := PySem.W.mg_of X G a_some
  have F_text := fun_mk (st := sText) l_text c_text k_text
  have b_text := F_text.binds (ps := ["state", "letters"]) fun _ _ _ _ _ _ us hl => match us, hl with | [_, _], _ => rfl
  have m_text := PySem.W.mg_of X G a_text
  have F_behind := fun_mk (st := sBehind) l_behind c_behind k_behind
  have b_behind := F_behind.binds (ps := ["pairs", "kind", "name", "rest", "fault", "room"]) fun _ _ _ _ _ _ us hl => match us, hl with | [_, _, _, _, _, _], _ => rfl
  have m_behind := PySem.W.mg_of X G a_behind
  have F_done := fun_mk (st := sDone) l_done c_done k_done
  have b_done := F_done.binds (ps := ["journal", "kind", "name", "rest"]) fun _ _ _ _ _ _ us hl => match us, hl with | [_, _, _, _], _ => rfl
  have m_done := PySem.W.mg_of X G a_done
  have F_lat := fun_mk (st := sLAt) l_lat c_lat k_lat
  have b_lat := F_lat.binds (ps := ["journal", "count"]) fun _ _ _ _ _ _ us hl => match us, hl with | [_, _], _ => rfl
  have m_lat := PySem.W.mg_of X G a_lat
  have F_is := fun_mk (st := sIs) l_is c_is k_is
  have b_is := F_is.binds (ps := ["book", "letters", "pairs", "room"]) fun _ _ _ _ _ _ us hl => match us, hl with | [_, _, _, _], _ => rfl
  have m_is := PySem.W.mg_of X G a_is
  have F_stands := fun_mk (st := sStands) l_stands c_stands k_stands
  have b_stands := F_stands.binds (ps := ["journal", "letters", "past", "room"]) fun _ _ _ _ _ _ us hl => match us, hl with | [_, _, _, _], _ => rfl
  have m_stands := PySem.W.mg_of X G a_stands
  have F_ear := fun_mk (st := sEar) l_ear c_ear k_ear
  have b_ear := F_ear.binds (ps := ["journal", "letters", "past", "room"]) fun _ _ _ _ _ _ us hl => match us, hl with | [_, _, _, _], _ => rfl
  have m_ear := PySem.W.mg_of X G a_ear
  have F_back := fun_mk (st := sBack) l_back c_back k_back
  have b_back := F_back.binds (ps := ["journal", "letters", "past", "room"]) fun _ _ _ _ _ _ us hl => match us, hl with | [_, _, _, _], _ => rfl
  have m_back := PySem.W.mg_of X G a_back
  have F_law := fun_mk (st := sLaw) l_law c_law k_law
  have mC_R := PySem.W.mg_of X G aC_R
  have cl_R : Cls K C_R := ⟨pg_R, hd_R, po_R, sa_R⟩
  have M_R : Mk K C_R f_rinit := ⟨mk_R, a_rinit, i_rinit, kc_R⟩
  have mC_P := PySem.W.mg_of X G aC_P
  have cl_P : Cls K C_P := ⟨pg_P, hd_P, po_P, sa_P⟩
  have M_P : Mk K C_P f_pinit := ⟨mk_P, a_pinit, i_pinit, kc_P⟩
  have mC_B := PySem.W.mg_of X G aC_B
  have cl_B : Cls K C_B := ⟨pg_B, hd_B, po_B, sa_B⟩
  have mC_J := PySem.W.mg_of X G aC_J
  have cl_J : Cls K C_J := ⟨pg_J, hd_J, po_J, sa_J⟩
  have mg_ML := PySem.W.mg_of X G g_ML
  have mg_SM := PySem.W.mg_of X G g_SM
  have mg_MT := PySem.W.mg_of X G g_MT
  have mg_MN := PySem.W.mg_of X G g_MN
  have mg_MM := PySem.W.mg_of X G g_MM
  have mg_SB := PySem.W.mg_of X G g_SB
  have mg_DG := PySem.W.mg_of X G g_DG
  have con_P_MOST_ROWS : ∃ u, Con K C_P "MOST_ROWS" (.int 16000) u := ⟨_, co_P_MOST_ROWS, ⟨_, rfl⟩, cg_P_MOST_ROWS, by decide⟩
  have o_len := PySem.W.mg_none_of X G z_len
  have o_int := PySem.W.mg_none_of X G z_int
  have o_range := PySem.W.mg_none_of X G z_range
  have o_tuple := PySem.W.mg_none_of X G z_tuple
  have o_enumerate := PySem.W.mg_none_of X G z_enumerate
  have o_list := PySem.W.mg_none_of X G z_list
  have o_isinstance := PySem.W.mg_none_of X G z_isinstance
  have o_bool := PySem.W.mg_none_of X G z_bool
  have o_str := PySem.W.mg_none_of X G z_str
  have o_super := PySem.W.mg_none_of X G z_super
  have o_ValueError := PySem.W.mg_none_of X G z_ValueError
  have o_iter := PySem.W.mg_none_of X G z_iter
  have mE_1 := PySem.W.mg_of X G aE_1
  have mE_2 := PySem.W.mg_of X G aE_2
  have mE_3 := PySem.W.mg_of X G aE_3
  have mE_4 := PySem.W.mg_of X G aE_4
  have mE_5 := PySem.W.mg_of X G aE_5
  have mE_6 := PySem.W.mg_of X G aE_6
  have mE_7 := PySem.W.mg_of X G aE_7
  have mE_8 := PySem.W.mg_of X G aE_8
  have mE_9 := PySem.W.mg_of X G aE_9
  have mE_10 := PySem.W.mg_of X G aE_10
  have mE_11 := PySem.W.mg_of X G aE_11
  have mE_12 := PySem.W.mg_of X G aE_12
  have mE_13 := PySem.W.mg_of X G aE_13
  have mE_14 := PySem.W.mg_of X G aE_14
  have mE_15 := PySem.W.mg_of X G aE_15
  have mE_16 := PySem.W.mg_of X G aE_16
  have mE_17 := PySem.W.mg_of X G aE_17
  have mE_18 := PySem.W.mg_of X G aE_18
  have xc_8 : ExcC K E_8 := ⟨ga_8, gg_8, exE_8, hdE_8, gc_8, gsC, tkC, mo_8⟩
  have xf_8 : XfC K E_8 := ⟨ga_8, gg_8, exE_8, hdE_8⟩
  have kv_8 := kit_ve sv_8
  have kt_8_1 := kit_ref hdE_1 tyE_1 s_8_1 s_8_8
  have kt_8_2 := kit_ref hdE_2 tyE_2 s_8_2 s_8_8
  have kt_8_3 := kit_ref hdE_3 tyE_3 s_8_3 s_8_8
  have kt_8_4 := kit_ref hdE_4 tyE_4 s_8_4 s_8_8
  have kt_8_5 := kit_ref hdE_5 tyE_5 s_8_5 s_8_8
  have kt_8_6 := kit_ref hdE_6 tyE_6 s_8_6 s_8_8
  have kt_8_7 := kit_ref hdE_7 tyE_7 s_8_7 s_8_8
  have kt_8_8 := kit_ref hdE_8 tyE_8 s_8_8 s_8_8
  have kt_8_9 := kit_ref hdE_9 tyE_9 s_8_9 s_8_8
  have kt_8_10 := kit_ref hdE_10 tyE_10 s_8_10 s_8_8
  have kt_8_11 := kit_ref hdE_11 tyE_11 s_8_11 s_8_8
  have kt_8_12 := kit_ref hdE_12 tyE_12 s_8_12 s_8_8
  have kt_8_13 := kit_ref hdE_13 tyE_13 s_8_13 s_8_8
  have kt_8_14 := kit_ref hdE_14 tyE_14 s_8_14 s_8_8
  have kt_8_15 := kit_ref hdE_15 tyE_15 s_8_15 s_8_8
  have kt_8_16 := kit_ref hdE_16 tyE_16 s_8_16 s_8_8
  have kt_8_17 := kit_ref hdE_17 tyE_17 s_8_17 s_8_8
  have kt_8_18 := kit_ref hdE_18 tyE_18 s_8_18 s_8_8
  have xc_11 : ExcC K E_11 := ⟨ga_11, gg_11, exE_11, hdE_11, gc_11, gsC, tkC, mo_11⟩
  have xf_11 : XfC K E_11 := ⟨ga_11, gg_11, exE_11, hdE_11⟩
  have kv_11 := kit_ve sv_11
  have kt_11_1 := kit_ref hdE_1 tyE_1 s_11_1 s_11_11
  have kt_11_2 := kit_ref hdE_2 tyE_2 s_11_2 s_11_11
  have kt_11_3 := kit_ref hdE_3 tyE_3 s_11_3 s_11_11
  have kt_11_4 := kit_ref hdE_4 tyE_4 s_11_4 s_11_11
  have kt_11_5 := kit_ref hdE_5 tyE_5 s_11_5 s_11_11
  have kt_11_6 := kit_ref hdE_6 tyE_6 s_11_6 s_11_11
  have kt_11_7 := kit_ref hdE_7 tyE_7 s_11_7 s_11_11
  have kt_11_8 := kit_ref hdE_8 tyE_8 s_11_8 s_11_11
  have kt_11_9 := kit_ref hdE_9 tyE_9 s_11_9 s_11_11
  have kt_11_10 := kit_ref hdE_10 tyE_10 s_11_10 s_11_11
  have kt_11_11 := kit_ref hdE_11 tyE_11 s_11_11 s_11_11
  have kt_11_12 := kit_ref hdE_12 tyE_12 s_11_12 s_11_11
  have kt_11_13 := kit_ref hdE_13 tyE_13 s_11_13 s_11_11
  have kt_11_14 := kit_ref hdE_14 tyE_14 s_11_14 s_11_11
  have kt_11_15 := kit_ref hdE_15 tyE_15 s_11_15 s_11_11
  have kt_11_16 := kit_ref hdE_16 tyE_16 s_11_16 s_11_11
  have kt_11_17 := kit_ref hdE_17 tyE_17 s_11_17 s_11_11
  have kt_11_18 := kit_ref hdE_18 tyE_18 s_11_18 s_11_11
  have xc_12 : ExcC K E_12 := ⟨ga_12, gg_12, exE_12, hdE_12, gc_12, gsC, tkC, mo_12⟩
  have xf_12 : XfC K E_12 := ⟨ga_12, gg_12, exE_12, hdE_12⟩
  have kv_12 := kit_ve sv_12
  have kt_12_1 := kit_ref hdE_1 tyE_1 s_12_1 s_12_12
  have kt_12_2 := kit_ref hdE_2 tyE_2 s_12_2 s_12_12
  have kt_12_3 := kit_ref hdE_3 tyE_3 s_12_3 s_12_12
  have kt_12_4 := kit_ref hdE_4 tyE_4 s_12_4 s_12_12
  have kt_12_5 := kit_ref hdE_5 tyE_5 s_12_5 s_12_12
  have kt_12_6 := kit_ref hdE_6 tyE_6 s_12_6 s_12_12
  have kt_12_7 := kit_ref hdE_7 tyE_7 s_12_7 s_12_12
  have kt_12_8 := kit_ref hdE_8 tyE_8 s_12_8 s_12_12
  have kt_12_9 := kit_ref hdE_9 tyE_9 s_12_9 s_12_12
  have kt_12_10 := kit_ref hdE_10 tyE_10 s_12_10 s_12_12
  have kt_12_11 := kit_ref hdE_11 tyE_11 s_12_11 s_12_12
  have kt_12_12 := kit_ref hdE_12 tyE_12 s_12_12 s_12_12
  have kt_12_13 := kit_ref hdE_13 tyE_13 s_12_13 s_12_12
  have kt_12_14 := kit_ref hdE_14 tyE_14 s_12_14 s_12_12
  have kt_12_15 := kit_ref hdE_15 tyE_15 s_12_15 s_12_12
  have kt_12_16 := kit_ref hdE_16 tyE_16 s_12_16 s_12_12
  have kt_12_17 := kit_ref hdE_17 tyE_17 s_12_17 s_12_12
  have kt_12_18 := kit_ref hdE_18 tyE_18 s_12_18 s_12_12
  have xc_15 : ExcC K E_15 := ⟨ga_15, gg_15, exE_15, hdE_15, gc_15, gsC, tkC, mo_15⟩
  have xf_15 : XfC K E_15 := ⟨ga_15, gg_15, exE_15, hdE_15⟩
  have kv_15 := kit_ve sv_15
  have kt_15_1 := kit_ref hdE_1 tyE_1 s_15_1 s_15_15
  have kt_15_2 := kit_ref hdE_2 tyE_2 s_15_2 s_15_15
  have kt_15_3 := kit_ref hdE_3 tyE_3 s_15_3 s_15_15
  have kt_15_4 := kit_ref hdE_4 tyE_4 s_15_4 s_15_15
  have kt_15_5 := kit_ref hdE_5 tyE_5 s_15_5 s_15_15
  have kt_15_6 := kit_ref hdE_6 tyE_6 s_15_6 s_15_15
  have kt_15_7 := kit_ref hdE_7 tyE_7 s_15_7 s_15_15
  have kt_15_8 := kit_ref hdE_8 tyE_8 s_15_8 s_15_15
  have kt_15_9 := kit_ref hdE_9 tyE_9 s_15_9 s_15_15
  have kt_15_10 := kit_ref hdE_10 tyE_10 s_15_10 s_15_15
  have kt_15_11 := kit_ref hdE_11 tyE_11 s_15_11 s_15_15
  have kt_15_12 := kit_ref hdE_12 tyE_12 s_15_12 s_15_15
  have kt_15_13 := kit_ref hdE_13 tyE_13 s_15_13 s_15_15
  have kt_15_14 := kit_ref hdE_14 tyE_14 s_15_14 s_15_15
  have kt_15_15 := kit_ref hdE_15 tyE_15 s_15_15 s_15_15
  have kt_15_16 := kit_ref hdE_16 tyE_16 s_15_16 s_15_15
  have kt_15_17 := kit_ref hdE_17 tyE_17 s_15_17 s_15_15
  have kt_15_18 := kit_ref hdE_18 tyE_18 s_15_18 s_15_15
  have xm_8 : PySem.XM.XmC l.prog K E_8 E_8 I_8 "state" :=
    { cls := ⟨_, _, _, _, _, _, _, _, _, _, _, _, _, _, _, xL_8, rv_8⟩, sa := xsa_8, noF := xno_8, iC := xi_8, tI := xt_8, kC := kpE_8, exC := exE_8, vC := sv_8, tyC := tyE_8,
      fn := ⟨cc_8, cda_8, _, _, _, _, _, _, _, _, _, _, _, _, _, _, _, _, _, _, _, _, _, _, xl_8, xco_8, xpe_8, ⟨_, _, _, _, _, _, xcd_8, xv2_8, xfi_8⟩, ⟨_, _, _, xce_8⟩⟩,
      nf := by simp, bd := fun _ _ _ _ _ _ _ _ _ _ _ _ _ _ _ _ _ _ _ _ _ _ _ _ => .of_eq rfl, clD := ⟨_, xci_8⟩, subD := xmr_8, sup := xsu_8, thi := xthi, top := xtop }
  have xm_11 : PySem.XM.XmC l.prog K E_11 E_11 I_11 "index" :=
    { cls := ⟨_, _, _, _, _, _, _, _, _, _, _, _, _, _, _, xL_11, rv_11⟩, sa := xsa_11, noF := xno_11, iC := xi_11, tI := xt_11, kC := kpE_11, exC := exE_11, vC := sv_11, tyC := tyE_11,
      fn := ⟨cc_11, cda_11, _, _, _, _, _, _, _, _, _, _, _, _, _, _, _, _, _, _, _, _, _, _, xl_11, xco_11, xpe_11, ⟨_, _, _, _, _, _, xcd_11, xv2_11, xfi_11⟩, ⟨_, _, _, xce_11⟩⟩,
      nf := by simp, bd := fun _ _ _ _ _ _ _ _ _ _ _ _ _ _ _ _ _ _ _ _ _ _ _ _ => .of_eq rfl, clD := ⟨_, xci_11⟩, subD := xmr_11, sup := xsu_11, thi := xthi, top := xtop }
  have xm_12 : PySem.XM.XmC l.prog K E_12 E_12 I_12 "name" :=
    { cls := ⟨_, _, _, _, _, _, _, _, _, _, _, _, _, _, _, xL_12, rv_12⟩, sa := xsa_12, noF := xno_12, iC := xi_12, tI := xt_12, kC := kpE_12, exC := exE_12, vC := sv_12, tyC := tyE_12,
      fn := ⟨cc_12, cda_12, _, _, _, _, _, _, _, _, _, _, _, _, _, _, _, _, _, _, _, _, _, _, xl_12, xco_12, xpe_12, ⟨_, _, _, _, _, _, xcd_12, xv2_12, xfi_12⟩, ⟨_, _, _, xce_12⟩⟩,
      nf := by simp, bd := fun _ _ _ _ _ _ _ _ _ _ _ _ _ _ _ _ _ _ _ _ _ _ _ _ => .of_eq rfl, clD := ⟨_, xci_12⟩, subD := xmr_12, sup := xsu_12, thi := xthi, top := xtop }
  have xm_15 : PySem.XM.XmC l.prog K E_15 E_15 I_15 "limit" :=
    { cls := ⟨_, _, _, _, _, _, _, _, _, _, _, _, _, _, _, xL_15, rv_15⟩, sa := xsa_15, noF := xno_15, iC := xi_15, tI := xt_15, kC := kpE_15, exC := exE_15, vC := sv_15, tyC := tyE_15,
      fn := ⟨cc_15, cda_15, _, _, _, _, _, _, _, _, _, _, _, _, _, _, _, _, _, _, _, _, _, _, xl_15, xco_15, xpe_15, ⟨_, _, _, _, _, _, xcd_15, xv2_15, xfi_15⟩, ⟨_, _, _, xce_15⟩⟩,
      nf := by simp, bd := fun _ _ _ _ _ _ _ _ _ _ _ _ _ _ _ _ _ _ _ _ _ _ _ _ => .of_eq rfl, clD := ⟨_, xci_15⟩, subD := xmr_15, sup := xsu_15, thi := xthi, top := xtop }
  have TS : SameT mg := ⟨o_isinstance, o_bool, o_int, o_str, o_list, o_tuple, o_len, o_range⟩
  have mD_B := PySem.W.mg_of X G aD_B
  have mD_P := PySem.W.mg_of X G aD_P
  have TR : RdT K w mg C_R D_B := ⟨cl_R, n_R_letters, n_R_rows, n_R_operands, n_R_waiting, n_R_ready, mC_R, mD_B, bd_of lD_B kD_B hB0 hB1 hB2 hB3 hB4, o_len, o_list, o_range⟩
  have TP : PtT K w mg C_P D_P := ⟨cl_P, n_P_letters, n_P_rows, con_P_MOST_ROWS, mC_P, mD_P, ⟨_, _, lD_P, kD_P, loD_P⟩, ⟨_, _, _, lD_P, kD_P, hP0, ⟨_, rfl⟩⟩, ⟨_, _, _, lD_P, kD_P, hP1, ⟨_, rfl⟩⟩, ⟨_, _, _, lD_P, kD_P, hP2, ⟨_, rfl⟩⟩, ⟨_, _, _, lD_P, kD_P, hP3, ⟨_, rfl⟩⟩, TS, o_enumerate⟩
  have TB : BkT K mg C_B := ⟨cl_B, n_B_letters, n_B_texts, n_B_patterns, n_B_former_texts, n_B_former_patterns, n_B__room, mC_B, o_len⟩
  have TE : BkE l.prog K mg (cAt E_1 [E_1, E_1, E_2, E_3, E_4, E_5, E_6, E_7, E_8, E_9, E_10, E_11, E_12, E_13, E_14, E_15, E_16, E_17, E_18]) I_11 I_12 I_15 := ⟨xm_11, xm_12, xm_15, o_super, mE_11, mE_12, mE_15⟩
  have TC : ClsT mg (cAt E_1 [E_1, E_1, E_2, E_3, E_4, E_5, E_6, E_7, E_8, E_9, E_10, E_11, E_12, E_13, E_14, E_15, E_16, E_17, E_18]) := ⟨mE_1, mE_2, mE_3, mE_4, mE_5, mE_6, mE_7, mE_8, mE_9, mE_10, mE_11, mE_12, mE_13, mE_14, mE_15, mE_16, mE_17, mE_18⟩
  have is_8 : IsOf K (cAt E_1 [E_1, E_1, E_2, E_3, E_4, E_5, E_6, E_7, E_8, E_9, E_10, E_11, E_12, E_13, E_14, E_15, E_16, E_17, E_18]) E_8 [true, true, false, false, false, false, false, false, true, false, false, false, false, false, false, false, false, false, false] := .cons kv_8 (.cons kt_8_1 (.cons kt_8_2 (.cons kt_8_3 (.cons kt_8_4 (.cons kt_8_5 (.cons kt_8_6 (.cons kt_8_7 (.cons kt_8_8 (.cons kt_8_9 (.cons kt_8_10 (.cons kt_8_11 (.cons kt_8_12 (.cons kt_8_13 (.cons kt_8_14 (.cons kt_8_15 (.cons kt_8_16 (.cons kt_8_17 (.cons kt_8_18 .nil))))))))))))))))))
  have is_11 : IsOf K (cAt E_1 [E_1, E_1, E_2, E_3, E_4, E_5, E_6, E_7, E_8, E_9, E_10, E_11, E_12, E_13, E_14, E_15, E_16, E_17, E_18]) E_11 [true, true, false, false, false, false, false, false, false, false, false, true, false, false, false, false, false, false, false] := .cons kv_11 (.cons kt_11_1 (.cons kt_11_2 (.cons kt_11_3 (.cons kt_11_4 (.cons kt_11_5 (.cons kt_11_6 (.cons kt_11_7 (.cons kt_11_8 (.cons kt_11_9 (.cons kt_11_10 (.cons kt_11_11 (.cons kt_11_12 (.cons kt_11_13 (.cons kt_11_14 (.cons kt_11_15 (.cons kt_11_16 (.cons kt_11_17 (.cons kt_11_18 .nil))))))))))))))))))
  have is_12 : IsOf K (cAt E_1 [E_1, E_1, E_2, E_3, E_4, E_5, E_6, E_7, E_8, E_9, E_10, E_11, E_12, E_13, E_14, E_15, E_16, E_17, E_18]) E_12 [true, true, false, false, false, false, false, false, false, false, false, false, true, false, false, false, false, false, false] := .cons kv_12 (.cons kt_12_1 (.cons kt_12_2 (.cons kt_12_3 (.cons kt_12_4 (.cons kt_12_5 (.cons kt_12_6 (.cons kt_12_7 (.cons kt_12_8 (.cons kt_12_9 (.cons kt_12_10 (.cons kt_12_11 (.cons kt_12_12 (.cons kt_12_13 (.cons kt_12_14 (.cons kt_12_15 (.cons kt_12_16 (.cons kt_12_17 (.cons kt_12_18 .nil))))))))))))))))))
  have is_15 : IsOf K (cAt E_1 [E_1, E_1, E_2, E_3, E_4, E_5, E_6, E_7, E_8, E_9, E_10, E_11, E_12, E_13, E_14, E_15, E_16, E_17, E_18]) E_15 [true, true, false, false, false, false, false, false, false, false, false, false, false, false, false, true, false, false, false] := .cons kv_15 (.cons kt_15_1 (.cons kt_15_2 (.cons kt_15_3 (.cons kt_15_4 (.cons kt_15_5 (.cons kt_15_6 (.cons kt_15_7 (.cons kt_15_8 (.cons kt_15_9 (.cons kt_15_10 (.cons kt_15_11 (.cons kt_15_12 (.cons kt_15_13 (.cons kt_15_14 (.cons kt_15_15 (.cons kt_15_16 (.cons kt_15_17 (.cons kt_15_18 .nil))))))))))))))))))
  have TY : DTryT K mg (cAt E_1 [E_1, E_1, E_2, E_3, E_4, E_5, E_6, E_7, E_8, E_9, E_10, E_11, E_12, E_13, E_14, E_15, E_16, E_17, E_18]) := ⟨⟨xc_8, ⟨_, is_8, by decide +kernel⟩, xf_8⟩, ⟨xc_11, ⟨_, is_11, by decide +kernel⟩, xf_11⟩, ⟨xc_12, ⟨_, is_12, by decide +kernel⟩, xf_12⟩, ⟨xc_15, ⟨_, is_15, by decide +kernel⟩, xf_15⟩, xno_8, xno_11, xno_12, xno_15, mE_8, mE_11, mE_12, mE_15, (PySem.W.exm_ref exE_8 hdE_8 tyE_8 s_8_8), (PySem.W.exm_ref exE_12 hdE_12 tyE_12 s_12_12), (PySem.W.exm_ref exE_12 hdE_12 tyE_12 s_11_12), (PySem.W.exm_ref exE_11 hdE_11 tyE_11 s_11_11), (PySem.W.exm_ref exE_12 hdE_12 tyE_12 s_15_12), (PySem.W.exm_ref exE_11 hdE_11 tyE_11 s_15_11), (PySem.W.exm_ref exE_15 hdE_15 tyE_15 s_15_15)⟩
  have FD := bi_fd l_bi c_bi k_bi d_bi
  have M_B : Mk K C_B f_bi := ⟨mk_B, a_bi, i_bi, kc_B⟩
  have F_rm := fun_mk (st := sBRoom) l_rm c_rm k_rm
  have b_rm := F_rm.binds (ps := ["self"]) fun _ _ _ _ _ _ us hl => match us, hl with | [_], _ => rfl
  have FJ := ji_fd l_ji c_ji k_ji d_ji
  have M_J : Mk K C_J f_ji := ⟨mk_J, a_ji, i_ji, kc_J⟩
  have TJ : JrT K mg C_J := ⟨cl_J, n_J__latest, n_J__made, n_J__undone, n_J_letters, mC_J⟩
  have IP : InsI K C_P := ⟨ha_P, gsC, tkC, hm_P, kit_ref hd_P ty_P ss_P ss_P⟩
  have TI : BkI K mg C_B p_rm g_rm := ⟨ha_B, gsC, tkC, hm_B, kit_ref hd_B ty_B ss_B ss_B, ⟨a_rm, g_rmg, t_rm, ⟨_, r_rm⟩⟩⟩
  refine ⟨PySem.W.fnOf "law" "law" (defArgs sLaw) (defBody sLaw) (defScope sLaw) .none kV_law dc_law pm_law an_law cd_law ct_law, fun s v => .of_eq rfl, fun base _ _ => ?_⟩
  have cDraw : Cal l.prog w K mg base "_law_draw" 1 ["state", "many"] (spDraw K) := ⟨_, _, ok_draw F_draw o_len o_int, m_draw, F_draw.kp, b_draw⟩
  have cS0 : Cal l.prog w K mg base "_law_same" 0 ["actual", "expected"] (spSame K 0) := ⟨_, _, same0, m_same, F_same.kp, b_same⟩
  have cS1 : Cal l.prog w K mg base "_law_same" 1 ["actual", "expected"] (spSame K 1) := ⟨_, _, sameS F_same TS cS0, m_same, F_same.kp, b_same⟩
  have cS2 : Cal l.prog w K mg base "_law_same" 2 ["actual", "expected"] (spSame K 2) := ⟨_, _, sameS F_same TS cS1, m_same, F_same.kp, b_same⟩
  have cS3 : Cal l.prog w K mg base "_law_same" 3 ["actual", "expected"] (spSame K 3) := ⟨_, _, sameS F_same TS cS2, m_same, F_same.kp, b_same⟩
  have cS4 : Cal l.prog w K mg base "_law_same" 4 ["actual", "expected"] (spSame K 4) := ⟨_, _, sameS F_same TS cS3, m_same, F_same.kp, b_same⟩
  have cCL : Cal l.prog w K mg base "check_letters" 1 ["letters"] (spCheckL) := ⟨_, _, ok_checkL F_checkL o_len mg_ML mg_SM, m_checkL, F_checkL.kp, b_checkL⟩
  have mkR : MkCal l.prog w K mg base C_R 1 ["self", "letters"] (spRInit C_R) := ⟨_, _, ok_rinit F_rinit TR, M_R, b_rinit⟩
  have cPut : MCalR l.prog w K mg base C_R "put" 1 (spPut C_R) := ⟨_, ok_put0 l_put c_put TR, me_put, ⟨me_put, gf_put, tk_put, by decide +kernel, fi_put⟩⟩
  have cComb : MCal l.prog w K mg base C_R "combine" 2 ["self"] (spCombine C_R) := ⟨_, _, ok_combine F_comb TR cPut, me_comb, b_comb⟩
  have cDown : MCal l.prog w K mg base C_R "combine_down_to" 3 ["self", "binding"] (spDown C_R) := ⟨_, _, ok_down F_down TR cComb, me_down, b_down⟩
  have cWait : MCal l.prog w K mg base C_R "wait" 4 ["self", "sign"] (spWait C_R) := ⟨_, _, ok_wait F_wait TR cDown, me_wait, b_wait⟩
  have cBeg : MCal l.prog w K mg base C_R "begin" 5 ["self", "char"] (spBegin C_R) := ⟨_, _, ok_begin F_beg TR cWait cPut, me_beg, b_beg⟩
  have cClose : MCalX l.prog w K mg base C_R "close" 4 ["self", "index"] (spClose (cAt E_1 [E_1, E_1, E_2, E_3, E_4, E_5, E_6, E_7, E_8, E_9, E_10, E_11, E_12, E_13, E_14, E_15, E_16, E_17, E_18]) C_R) := ⟨_, _, ok_close F_close TR TE cDown, me_close, b_close⟩
  have cTake : MCalX l.prog w K mg base C_R "take" 6 ["self", "index", "char"] (spTake (cAt E_1 [E_1, E_1, E_2, E_3, E_4, E_5, E_6, E_7, E_8, E_9, E_10, E_11, E_12, E_13, E_14, E_15, E_16, E_17, E_18]) C_R) := ⟨_, _, ok_take F_take TR TE cBeg cWait cPut cClose, me_take, b_take⟩
  have cFits : Cal l.prog w K mg base "fits" 1 ["row", "at", "letters"] (spFits) := ⟨_, _, ok_fits F_fits TP, m_fits, F_fits.kp, b_fits⟩
  have mkP : MkCal l.prog w K mg base C_P 2 ["self", "letters", "rows"] (spPInit C_P) := ⟨_, _, ok_pinit F_pinit TP cCL cFits, M_P, b_pinit⟩
  have cRead : CalX l.prog w K mg base "read_pattern" 7 ["text", "letters"] (spRead (cAt E_1 [E_1, E_1, E_2, E_3, E_4, E_5, E_6, E_7, E_8, E_9, E_10, E_11, E_12, E_13, E_14, E_15, E_16, E_17, E_18]) C_P) := ⟨_, _, ok_read F_read TR TE TP mg_MT cCL mkR mkP cDown cTake, m_read, F_read.kp, b_read⟩
  have cName : CalX l.prog w K mg base "check_name" 3 ["name"] (spName (cAt E_1 [E_1, E_1, E_2, E_3, E_4, E_5, E_6, E_7, E_8, E_9, E_10, E_11, E_12, E_13, E_14, E_15, E_16, E_17, E_18])) := ⟨_, _, ok_name F_name TE o_len mg_MM mg_SB mg_DG, m_name, F_name.kp, b_name⟩
  have cRoomC : Cal l.prog w K mg base "check_room" 1 ["room", "least"] (spRoomC) := ⟨_, _, ok_roomC F_roomC mg_MN, m_roomC, F_roomC.kp, b_roomC⟩
  have GB := ok_binit (P := l.prog) (w := w) (base := base) (CP := C_P) FD TB cCL cRoomC
  have mkB : MkCal l.prog w K mg base C_B 2 ["self", "letters", "room"] (spBInit C_B C_P) := ⟨_, _, GB, M_B, bi_all FD⟩
  have cLen : MCal l.prog w K mg base C_B "__len__" 1 ["self"] (spBLen C_B) := ⟨_, _, ok_blen F_blen TB, me_blen, b_blen⟩
  have cIn : MCal l.prog w K mg base C_B "__contains__" 1 ["self", "name"] (spBIn C_B) := ⟨_, _, ok_bin F_bin TB, me_bin, b_bin⟩
  have cSet : MCalX l.prog w K mg base C_B "__setitem__" 8 ["self", "name", "text"] (spBSet (cAt E_1 [E_1, E_1, E_2, E_3, E_4, E_5, E_6, E_7, E_8, E_9, E_10, E_11, E_12, E_13, E_14, E_15, E_16, E_17, E_18]) C_B C_P) := ⟨_, _, ok_bset F_bset TB TE cName cRead, me_bset, b_bset⟩
  have BM : BkM l.prog w K mg base (cAt E_1 [E_1, E_1, E_2, E_3, E_4, E_5, E_6, E_7, E_8, E_9, E_10, E_11, E_12, E_13, E_14, E_15, E_16, E_17, E_18]) C_B C_P := ⟨⟨_, _, ok_biter F_biter TB o_iter, me_biter, b_biter⟩, cLen, cIn, cSet, nsq_B, mkB⟩
  have cDrop : MCalX l.prog w K mg base C_B "drop" 3 ["self", "name"] (spBDrop (cAt E_1 [E_1, E_1, E_2, E_3, E_4, E_5, E_6, E_7, E_8, E_9, E_10, E_11, E_12, E_13, E_14, E_15, E_16, E_17, E_18]) C_B C_P) := ⟨_, _, ok_bdrop F_bdrop TB TE, me_bdrop, b_bdrop⟩
  have cWr : MCal l.prog w K mg base C_B "written" 1 ["self"] (spBWritten C_B C_P) := ⟨_, _, ok_bwritten F_bwr TB, me_bwr, b_bwr⟩
  have mkPT : MkCal l.prog w K mg base C_P 2 ["self", "letters", "rows"] (spPInitT C_P) := ⟨_, _, ok_pinitT F_pinit TP cCL cFits, M_P, b_pinit⟩
  have cEq : MCal l.prog w K mg base C_P "__eq__" 3 ["self", "other"] (L2.spEq (EqP C_P)) := ⟨_, _, ok_peq F_peq TP IP, me_peq, b_peq⟩
  have GR := ok_room (P := l.prog) (w := w) (mg := mg) (base := base) F_rm TB
  have cRenamed : CalX l.prog w K mg base "renamed" 9 ["book", "old", "new"] (spRenamed (cAt E_1 [E_1, E_1, E_2, E_3, E_4, E_5, E_6, E_7, E_8, E_9, E_10, E_11, E_12, E_13, E_14, E_15, E_16, E_17, E_18]) C_B C_P) := ⟨_, _, ok_renamed F_renamed TB TE TI BM GR b_rm cName, m_renamed, F_renamed.kp, b_renamed⟩
  have cStepped : CalX l.prog w K mg base "stepped" 10 ["book", "step"] (spStepped (cAt E_1 [E_1, E_1, E_2, E_3, E_4, E_5, E_6, E_7, E_8, E_9, E_10, E_11, E_12, E_13, E_14, E_15, E_16, E_17, E_18]) C_B C_P) := ⟨_, _, ok_stepped F_stepped TB BM cDrop cRenamed, m_stepped, F_stepped.kp, b_stepped⟩
  have mkJ : MkCal l.prog w K mg base C_J 4 ["self", "letters", "room"] (spJInit C_J C_B C_P) := ⟨_, _, ok_jinit FJ TB TJ BM, M_J, ji_all FJ⟩
  have cJLen : MCal l.prog w K mg base C_J "__len__" 1 ["self"] (spJLen C_J C_B C_P) := ⟨_, _, ok_jlen F_jlen o_len TJ, me_jlen, b_jlen⟩
  have cJAt : MCalX l.prog w K mg base C_J "book_at" 11 ["self", "count"] (spJAt (cAt E_1 [E_1, E_1, E_2, E_3, E_4, E_5, E_6, E_7, E_8, E_9, E_10, E_11, E_12, E_13, E_14, E_15, E_16, E_17, E_18]) C_J C_B C_P) := ⟨_, _, ok_jat F_jat TB TJ xm_8 mE_8 o_super TI BM GR b_rm cStepped, me_jat, b_jat⟩
  have cJBook : MCal l.prog w K mg base C_J "book" 12 ["self"] (spJBook C_J C_B C_P) := ⟨_, _, ok_jbook F_jbook o_len TJ cJAt, me_jbook, b_jbook⟩
  have cJMake : MCalX l.prog w K mg base C_J "make" 11 ["self", "step"] (spJMake (cAt E_1 [E_1, E_1, E_2, E_3, E_4, E_5, E_6, E_7, E_8, E_9, E_10, E_11, E_12, E_13, E_14, E_15, E_16, E_17, E_18]) C_J C_B C_P) := ⟨_, _, ok_jmake F_jmake TJ cStepped, me_jmake, b_jmake⟩
  have cJNote : MCalX l.prog w K mg base C_J "note" 12 ["self", "name", "text"] (spJNote (cAt E_1 [E_1, E_1, E_2, E_3, E_4, E_5, E_6, E_7, E_8, E_9, E_10, E_11, E_12, E_13, E_14, E_15, E_16, E_17, E_18]) C_J C_B C_P) := ⟨_, _, ok_jnote F_jnote TJ cJMake, me_jnote, b_jnote⟩
  have cJStrike : MCalX l.prog w K mg base C_J "strike" 12 ["self", "name"] (spJStrike (cAt E_1 [E_1, E_1, E_2, E_3, E_4, E_5, E_6, E_7, E_8, E_9, E_10, E_11, E_12, E_13, E_14, E_15, E_16, E_17, E_18]) C_J C_B C_P) := ⟨_, _, ok_jstrike F_jstrike TJ cJMake, me_jstrike, b_jstrike⟩
  have cJRen : MCalX l.prog w K mg base C_J "rename" 12 ["self", "old", "new"] (spJRen (cAt E_1 [E_1, E_1, E_2, E_3, E_4, E_5, E_6, E_7, E_8, E_9, E_10, E_11, E_12, E_13, E_14, E_15, E_16, E_17, E_18]) C_J C_B C_P) := ⟨_, _, ok_jren F_jren TJ cJMake, me_jren, b_jren⟩
  have cJUndo : MCal l.prog w K mg base C_J "undo" 13 ["self"] (spJUndo C_J C_B C_P) := ⟨_, _, ok_jundo F_jundo o_len TJ cJBook, me_jundo, b_jundo⟩
  have cJRedo : MCal l.prog w K mg base C_J "redo" 11 ["self"] (spJRedo C_J C_B C_P) := ⟨_, _, ok_jredo F_jredo o_len TJ cStepped, me_jredo, b_jredo⟩
  have JC : JrC l.prog w K mg base C_J C_B C_P := ⟨TJ, cJLen, cJBook, cJUndo, cJRedo⟩
  have EC : EarC l.prog w K mg base (cAt E_1 [E_1, E_1, E_2, E_3, E_4, E_5, E_6, E_7, E_8, E_9, E_10, E_11, E_12, E_13, E_14, E_15, E_16, E_17, E_18]) C_B C_P := ⟨TB, BM, ⟨_, _, ok_bget F_bget TB TP mkPT, me_bget, fi_bget, b_bget⟩, cEq, cDrop, cRead⟩
  have cE : CalE l.prog w K mg base (cAt E_1 [E_1, E_1, E_2, E_3, E_4, E_5, E_6, E_7, E_8, E_9, E_10, E_11, E_12, E_13, E_14, E_15, E_16, E_17, E_18]) := ⟨_, _, ok_classes F_classes TC TS o_ValueError, m_classes, F_classes.kp, b_classes⟩
  have cNew : Cal l.prog w K mg base "_law_new" 1 ["script"] (spNew K) := ⟨_, _, ok_new F_new o_list, m_new, F_new.kp, b_new⟩
  have cLet : Cal l.prog w K mg base "_law_letters" 2 ["state", "most"] (spLetters K) := ⟨_, _, ok_letters F_letters o_range cDraw, m_letters, F_letters.kp, b_letters⟩
  have cLName : Cal l.prog w K mg base "_law_name" 2 ["state"] (spLName K) := ⟨_, _, ok_lname F_lname o_range cDraw, m_lname, F_lname.kp, b_lname⟩
  have cNamed : Cal l.prog w K mg base "_law_named" 1 ["name"] (spNamed) := ⟨_, _, ok_named F_named o_len o_list, m_named, F_named.kp, b_named⟩
  have cSome : Cal l.prog w K mg base "_law_some_name" 2 ["state", "names"] (spSome K) := ⟨_, _, ok_some F_some cDraw, m_some, F_some.kp, b_some⟩
  have cText : Cal l.prog w K mg base "_law_text" 2 ["state", "letters"] (spText K) := ⟨_, _, ok_text F_text o_len cDraw, m_text, F_text.kp, b_text⟩
  have cBehind : Cal l.prog w K mg base "_law_behind" 2 ["pairs", "kind", "name", "rest", "fault", "room"] (spBehind) := ⟨_, _, ok_behind F_behind o_len o_int cNamed, m_behind, F_behind.kp, b_behind⟩
  have cDone : Cal l.prog w K mg base "_law_done" 13 ["journal", "kind", "name", "rest"] (spDone C_J C_B C_P) := ⟨_, _, ok_done F_done TY TJ cE cJNote cJStrike cJRen, m_done, F_done.kp, b_done⟩
  have cLAt : Cal l.prog w K mg base "_law_at" 12 ["journal", "count"] (spLAt C_J C_B C_P) := ⟨_, _, ok_lat F_lat TY TJ cE cJAt, m_lat, F_lat.kp, b_lat⟩
  have cIs : Cal l.prog w K mg base "_law_is" 5 ["book", "letters", "pairs", "room"] (spIs C_B C_P) := ⟨_, _, ok_is F_is TB TS TI BM GR b_rm cWr cS4, m_is, F_is.kp, b_is⟩
  have cStands : Cal l.prog w K mg base "_law_stands" 13 ["journal", "letters", "past", "room"] (spStands C_J C_B C_P) := ⟨_, _, ok_stands F_stands o_len JC cIs cS4, m_stands, F_stands.kp, b_stands⟩
  have cEar : Cal l.prog w K mg base "_law_earlier_books" 14 ["journal", "letters", "past", "room"] (spStands C_J C_B C_P) := ⟨_, _, ok_ear F_ear TS JC EC cLAt cIs cS4 cStands, m_ear, F_ear.kp, b_ear⟩
  have cBack : Cal l.prog w K mg base "_law_all_back" 14 ["journal", "letters", "past", "room"] (spBack C_J C_B C_P) := ⟨_, _, ok_back F_back TS JC cIs cS4, m_back, F_back.kp, b_back⟩
  exact ok_law F_law ⟨TS, JC, mkJ, cNew, cLet, cDraw, cLName, cSome, cText, cBehind, cDone, cStands, cEar, cBack, cS4⟩
theorem walk {l : PySem.W.OpenLaw} {q : Program} {loose : List Str} {XP : (Str → Option Value) → Heap → Prop} {YP : World → Heap → Prop} {d : DefRec} {K : Params → PySem.W.Frag} (hn : l.most = some 63) (hdf : d.params.defaults = [])
    (hY : ∀ (w : World) (h : Heap), YP w h → (K w.params).In h)
    (F : ∀ (w : World) (mg : Str → Option Value) (fa : Addr) (h : Heap), (K w.params).In h → h.Ns mainGlobals mg → mg d.name = some (.ref fa) →
      ∃ fd : FuncData, (∀ (s : Shared) (u : Value), BindsTo s fd ⟨[u], []⟩ [("script", u)]) ∧ ∀ base : Heap, (K w.params).In base → base.Ns mainGlobals mg → FnOk l.prog w (K w.params) mg base CX0 15 fa fd ["script"] (spLaw (K w.params))) :
    PySem.W.WalkO q loose XP YP l.row.toRowW d [] (fun f vs => PySem.call f vs) :=
  L2.walk_ofB (n := 63) (k := 15) (x := "script") (CX := fun _ => CX0) (sp := fun w => spLaw (K w.params)) hn (by decide) hdf ⟨rfl, by decide, by decide⟩ hY F (fun _ _ a ns hl hb _ hS => ⟨a, ns, rfl, hS, hl, hb, fun _ => rfl⟩) fun _ _ _ _ _ z => z
end W8

set_option Elab.async false
set_option linter.all false
set_option maxRecDepth 100000
set_option maxHeartbeats 0
namespace W8
open PySem PySem.Spec PyProof.Rows L2 L2E
def A_C_R (K : PySem.W.Frag) : Addr := HH.refOf (PySem.W.nsIn K mainGlobals "Reader")
def A_C_P (K : PySem.W.Frag) : Addr := HH.refOf (PySem.W.nsIn K mainGlobals "Pattern")
def A_C_B (K : PySem.W.Frag) : Addr := HH.refOf (PySem.W.nsIn K mainGlobals "Book")
def A_C_J (K : PySem.W.Frag) : Addr := HH.refOf (PySem.W.nsIn K mainGlobals "Journal")
def A_f_checkL (K : PySem.W.Frag) : Addr := HH.refOf (PySem.W.nsIn K mainGlobals "check_letters")
def A_f_fits (K : PySem.W.Frag) : Addr := HH.refOf (PySem.W.nsIn K mainGlobals "fits")
def A_f_pinit (K : PySem.W.Frag) : Addr := HH.refOf (PySem.W.findIn K (.ref (A_C_P K)) "__init__")
def A_f_rinit (K : PySem.W.Frag) : Addr := HH.refOf (PySem.W.findIn K (.ref (A_C_R K)) "__init__")
def A_f_put (K : PySem.W.Frag) : Addr := HH.refOf (PySem.W.findIn K (.ref (A_C_R K)) "put")
def A_f_comb (K : PySem.W.Frag) : Addr := HH.refOf (PySem.W.findIn K (.ref (A_C_R K)) "combine")
def A_f_down (K : PySem.W.Frag) : Addr := HH.refOf (PySem.W.findIn K (.ref (A_C_R K)) "combine_down_to")
def A_f_wait (K : PySem.W.Frag) : Addr := HH.refOf (PySem.W.findIn K (.ref (A_C_R K)) "wait")
def A_f_beg (K : PySem.W.Frag) : Addr := HH.refOf (PySem.W.findIn K (.ref (A_C_R K)) "begin")
def A_f_close (K : PySem.W.Frag) : Addr := HH.refOf (PySem.W.findIn K (.ref (A_C_R K)) "close")
def A_f_take (K : PySem.W.Frag) : Addr := HH.refOf (PySem.W.findIn K (.ref (A_C_R K)) "take")
def A_f_read (K : PySem.W.Frag) : Addr := HH.refOf (PySem.W.nsIn K mainGlobals "read_pattern")
def A_f_name (K : PySem.W.Frag) : Addr := HH.refOf (PySem.W.nsIn K mainGlobals "check_name")
def A_f_roomC (K : PySem.W.Frag) : Addr := HH.refOf (PySem.W.nsIn K mainGlobals "check_room")
def A_f_blen (K : PySem.W.Frag) : Addr := HH.refOf (PySem.W.findIn K (.ref (A_C_B K)) "__len__")
def A_f_biter (K : PySem.W.Frag) : Addr := HH.refOf (PySem.W.findIn K (.ref (A_C_B K)) "__iter__")
def A_f_bin (K : PySem.W.Frag) : Addr := HH.refOf (PySem.W.findIn K (.ref (A_C_B K)) "__contains__")
def A_f_bset (K : PySem.W.Frag) : Addr := HH.refOf (PySem.W.findIn K (.ref (A_C_B K)) "__setitem__")
def A_f_bdrop (K : PySem.W.Frag) : Addr := HH.refOf (PySem.W.findIn K (.ref (A_C_B K)) "drop")
def A_f_bwr (K : PySem.W.Frag) : Addr := HH.refOf (PySem.W.findIn K (.ref (A_C_B K)) "written")
def A_f_bget (K : PySem.W.Frag) : Addr := HH.refOf (PySem.W.findIn K (.ref (A_C_B K)) "__getitem__")
def A_f_peq (K : PySem.W.Frag) : Addr := HH.refOf (PySem.W.findIn K (.ref (A_C_P K)) "__eq__")
def A_f_renamed (K : PySem.W.Frag) : Addr := HH.refOf (PySem.W.nsIn K mainGlobals "renamed")
def A_f_stepped (K : PySem.W.Frag) : Addr := HH.refOf (PySem.W.nsIn K mainGlobals "stepped")
def A_f_jlen (K : PySem.W.Frag) : Addr := HH.refOf (PySem.W.findIn K (.ref (A_C_J K)) "__len__")
def A_f_jat (K : PySem.W.Frag) : Addr := HH.refOf (PySem.W.findIn K (.ref (A_C_J K)) "book_at")
def A_f_jbook (K : PySem.W.Frag) : Addr := HH.refOf (PySem.W.findIn K (.ref (A_C_J K)) "book")
def A_f_jmake (K : PySem.W.Frag) : Addr := HH.refOf (PySem.W.findIn K (.ref (A_C_J K)) "make")
def A_f_jnote (K : PySem.W.Frag) : Addr := HH.refOf (PySem.W.findIn K (.ref (A_C_J K)) "note")
def A_f_jstrike (K : PySem.W.Frag) : Addr := HH.refOf (PySem.W.findIn K (.ref (A_C_J K)) "strike")
def A_f_jren (K : PySem.W.Frag) : Addr := HH.refOf (PySem.W.findIn K (.ref (A_C_J K)) "rename")
def A_f_jundo (K : PySem.W.Frag) : Addr := HH.refOf (PySem.W.findIn K (.ref (A_C_J K)) "undo")
def A_f_jredo (K : PySem.W.Frag) : Addr := HH.refOf (PySem.W.findIn K (.ref (A_C_J K)) "redo")
def A_f_new (K : PySem.W.Frag) : Addr := HH.refOf (PySem.W.nsIn K mainGlobals "_law_new")
def A_f_draw (K : PySem.W.Frag) : Addr := HH.refOf (PySem.W.nsIn K mainGlobals "_law_draw")
def A_f_same (K : PySem.W.Frag) : Addr := HH.refOf (PySem.W.nsIn K mainGlobals "_law_same")
def A_f_letters (K : PySem.W.Frag) : Addr := HH.refOf (PySem.W.nsIn K mainGlobals "_law_letters")
def A_f_classes (K : PySem.W.Frag) : Addr := HH.refOf (PySem.W.nsIn K mainGlobals "_law_classes")
def A_f_lname (K : PySem.W.Frag) : Addr := HH.refOf (PySem.W.nsIn K mainGlobals "_law_name")
def A_f_named (K : PySem.W.Frag) : Addr := HH.refOf (PySem.W.nsIn K mainGlobals "_law_named")
def A_f_some (K : PySem.W.Frag) : Addr := HH.refOf (PySem.W.nsIn K mainGlobals "_law_some_name")
def A_f_text (K : PySem.W.Frag) : Addr := HH.refOf (PySem.W.nsIn K mainGlobals "_law_text")
def A_f_behind (K : PySem.W.Frag) : Addr := HH.refOf (PySem.W.nsIn K mainGlobals "_law_behind")
def A_f_done (K : PySem.W.Frag) : Addr := HH.refOf (PySem.W.nsIn K mainGlobals "_law_done")
def A_f_lat (K : PySem.W.Frag) : Addr := HH.refOf (PySem.W.nsIn K mainGlobals "_law_at")
def A_f_is (K : PySem.W.Frag) : Addr := HH.refOf (PySem.W.nsIn K mainGlobals "_law_is")
def A_f_stands (K : PySem.W.Frag) : Addr := HH.refOf (PySem.W.nsIn K mainGlobals "_law_stands")
def A_f_ear (K : PySem.W.Frag) : Addr := HH.refOf (PySem.W.nsIn K mainGlobals "_law_earlier_books")
def A_f_back (K : PySem.W.Frag) : Addr := HH.refOf (PySem.W.nsIn K mainGlobals "_law_all_back")
def A_f_law (K : PySem.W.Frag) : Addr := HH.refOf (PySem.W.nsIn K mainGlobals "law")
def A_E_1 (K : PySem.W.Frag) : Addr := HH.refOf (PySem.W.nsIn K mainGlobals "ToolError")
def A_E_2 (K : PySem.W.Frag) : Addr := HH.refOf (PySem.W.nsIn K mainGlobals "LettersError")
def A_E_3 (K : PySem.W.Frag) : Addr := HH.refOf (PySem.W.nsIn K mainGlobals "MixedLetters")
def A_E_4 (K : PySem.W.Frag) : Addr := HH.refOf (PySem.W.nsIn K mainGlobals "TableError")
def A_E_5 (K : PySem.W.Frag) : Addr := HH.refOf (PySem.W.nsIn K mainGlobals "ActionError")
def A_E_6 (K : PySem.W.Frag) : Addr := HH.refOf (PySem.W.nsIn K mainGlobals "LassoError")
def A_E_7 (K : PySem.W.Frag) : Addr := HH.refOf (PySem.W.nsIn K mainGlobals "LetterError")
def A_E_8 (K : PySem.W.Frag) : Addr := HH.refOf (PySem.W.nsIn K mainGlobals "StateError")
def A_E_9 (K : PySem.W.Frag) : Addr := HH.refOf (PySem.W.nsIn K mainGlobals "RowError")
def A_E_10 (K : PySem.W.Frag) : Addr := HH.refOf (PySem.W.nsIn K mainGlobals "NotStarFree")
def A_E_11 (K : PySem.W.Frag) : Addr := HH.refOf (PySem.W.nsIn K mainGlobals "TextError")
def A_E_12 (K : PySem.W.Frag) : Addr := HH.refOf (PySem.W.nsIn K mainGlobals "NameFault")
def A_E_13 (K : PySem.W.Frag) : Addr := HH.refOf (PySem.W.nsIn K mainGlobals "LineError")
def A_E_14 (K : PySem.W.Frag) : Addr := HH.refOf (PySem.W.nsIn K mainGlobals "CountsError")
def A_E_15 (K : PySem.W.Frag) : Addr := HH.refOf (PySem.W.nsIn K mainGlobals "LimitError")
def A_E_16 (K : PySem.W.Frag) : Addr := HH.refOf (PySem.W.nsIn K mainGlobals "TooManyStates")
def A_E_17 (K : PySem.W.Frag) : Addr := HH.refOf (PySem.W.nsIn K mainGlobals "TooManyActions")
def A_E_18 (K : PySem.W.Frag) : Addr := HH.refOf (PySem.W.nsIn K mainGlobals "TooManyRows")
def A_I_8 (K : PySem.W.Frag) : Addr := HH.refOf (PySem.W.findIn K (.ref (A_E_8 K)) "__init__")
abbrev sXi_8 : Stmt := inClass (top 6) 0
def A_cda_8 (K : PySem.W.Frag) : Addr := HH.adOf (HH.fdO K (A_I_8 K)).code
def A_I_11 (K : PySem.W.Frag) : Addr := HH.refOf (PySem.W.findIn K (.ref (A_E_11 K)) "__init__")
abbrev sXi_11 : Stmt := inClass (top 10) 0
def A_cda_11 (K : PySem.W.Frag) : Addr := HH.adOf (HH.fdO K (A_I_11 K)).code
def A_I_12 (K : PySem.W.Frag) : Addr := HH.refOf (PySem.W.findIn K (.ref (A_E_12 K)) "__init__")
abbrev sXi_12 : Stmt := inClass (top 11) 0
def A_cda_12 (K : PySem.W.Frag) : Addr := HH.adOf (HH.fdO K (A_I_12 K)).code
def A_I_15 (K : PySem.W.Frag) : Addr := HH.refOf (PySem.W.findIn K (.ref (A_E_15 K)) "__init__")
abbrev sXi_15 : Stmt := inClass (top 15) 0
def A_cda_15 (K : PySem.W.Frag) : Addr := HH.adOf (HH.fdO K (A_I_15 K)).code
def A_D_B (K : PySem.W.Frag) : Addr := HH.refOf (PySem.W.nsIn K mainGlobals "BINDING")
def A_D_P (K : PySem.W.Frag) : Addr := HH.refOf (PySem.W.nsIn K mainGlobals "PARTS")
def A_f_ji (K : PySem.W.Frag) : Addr := HH.refOf (PySem.W.findIn K (.ref (A_C_J K)) "__init__")
def A_dt_ji (K : PySem.W.Frag) : Addr := HH.adOf (HH.fdO K (A_f_ji K)).defaults
def A_f_bi (K : PySem.W.Frag) : Addr := HH.refOf (PySem.W.findIn K (.ref (A_C_B K)) "__init__")
def A_dt_bi (K : PySem.W.Frag) : Addr := HH.adOf (HH.fdO K (A_f_bi K)).defaults
def A_p_rm (K : PySem.W.Frag) : Addr := HH.refOf (PySem.W.findIn K (.ref (A_C_B K)) "room")
def A_g_rm (K : PySem.W.Frag) : Addr := HH.hdOf (PySem.W.recIn K (A_p_rm K) "property")
abbrev EX0 (K : PySem.W.Frag) : Prop := (PySem.W.nsIn K mainGlobals "Reader" = some (some (.ref (A_C_R K)))) ∧
  (PySem.W.nsIn K mainGlobals "Pattern" = some (some (.ref (A_C_P K)))) ∧
  (PySem.W.nsIn K mainGlobals "Book" = some (some (.ref (A_C_B K)))) ∧
  (PySem.W.nsIn K mainGlobals "Journal" = some (some (.ref (A_C_J K)))) ∧
  (PySem.W.nsIn K mainGlobals "check_letters" = some (some (.ref (A_f_checkL K)))) ∧
  (PySem.W.codeIn K (HH.fdO K (A_f_checkL K)).code "check_letters" = true) ∧
  (PySem.W.keepIn K (.ref (A_f_checkL K)) = true) ∧
  (PySem.W.nsIn K mainGlobals "fits" = some (some (.ref (A_f_fits K)))) ∧
  (PySem.W.codeIn K (HH.fdO K (A_f_fits K)).code "fits" = true) ∧
  (PySem.W.keepIn K (.ref (A_f_fits K)) = true) ∧
  (PySem.W.findIn K (.ref (A_C_P K)) "__init__" = some (some (.ref (A_f_pinit K)))) ∧
  (PySem.W.isFn K (.ref (A_f_pinit K)) = true) ∧
  (PySem.W.codeIn K (HH.fdO K (A_f_pinit K)).code "Pattern.__init__" = true) ∧
  (PySem.W.keepIn K (.ref (A_f_pinit K)) = true) ∧
  (PySem.W.findIn K (.ref (A_C_R K)) "__init__" = some (some (.ref (A_f_rinit K)))) ∧
  (PySem.W.isFn K (.ref (A_f_rinit K)) = true) ∧
  (PySem.W.codeIn K (HH.fdO K (A_f_rinit K)).code "Reader.__init__" = true) ∧
  (PySem.W.keepIn K (.ref (A_f_rinit K)) = true) ∧
  (PySem.W.findIn K (.ref (A_C_R K)) "put" = some (some (.ref (A_f_put K)))) ∧
  (PySem.W.isFn K (.ref (A_f_put K)) = true)
abbrev EX1 (K : PySem.W.Frag) : Prop := (PySem.W.codeIn K (HH.fdO K (A_f_put K)).code "Reader.put" = true) ∧
  (PySem.W.keepIn K (.ref (A_f_put K)) = true) ∧
  (PySem.W.findIn K (.ref (A_C_R K)) "combine" = some (some (.ref (A_f_comb K)))) ∧
  (PySem.W.isFn K (.ref (A_f_comb K)) = true) ∧
  (PySem.W.codeIn K (HH.fdO K (A_f_comb K)).code "Reader.combine" = true) ∧
  (PySem.W.keepIn K (.ref (A_f_comb K)) = true) ∧
  (PySem.W.findIn K (.ref (A_C_R K)) "combine_down_to" = some (some (.ref (A_f_down K)))) ∧
  (PySem.W.isFn K (.ref (A_f_down K)) = true) ∧
  (PySem.W.codeIn K (HH.fdO K (A_f_down K)).code "Reader.combine_down_to" = true) ∧
  (PySem.W.keepIn K (.ref (A_f_down K)) = true) ∧
  (PySem.W.findIn K (.ref (A_C_R K)) "wait" = some (some (.ref (A_f_wait K)))) ∧
  (PySem.W.isFn K (.ref (A_f_wait K)) = true) ∧
  (PySem.W.codeIn K (HH.fdO K (A_f_wait K)).code "Reader.wait" = true) ∧
  (PySem.W.keepIn K (.ref (A_f_wait K)) = true) ∧
  (PySem.W.findIn K (.ref (A_C_R K)) "begin" = some (some (.ref (A_f_beg K)))) ∧
  (PySem.W.isFn K (.ref (A_f_beg K)) = true) ∧
  (PySem.W.codeIn K (HH.fdO K (A_f_beg K)).code "Reader.begin" = true) ∧
  (PySem.W.keepIn K (.ref (A_f_beg K)) = true) ∧
  (PySem.W.findIn K (.ref (A_C_R K)) "close" = some (some (.ref (A_f_close K)))) ∧
  (PySem.W.isFn K (.ref (A_f_close K)) = true)
abbrev EX2 (K : PySem.W.Frag) : Prop := (PySem.W.codeIn K (HH.fdO K (A_f_close K)).code "Reader.close" = true) ∧
  (PySem.W.keepIn K (.ref (A_f_close K)) = true) ∧
  (PySem.W.findIn K (.ref (A_C_R K)) "take" = some (some (.ref (A_f_take K)))) ∧
  (PySem.W.isFn K (.ref (A_f_take K)) = true) ∧
  (PySem.W.codeIn K (HH.fdO K (A_f_take K)).code "Reader.take" = true) ∧
  (PySem.W.keepIn K (.ref (A_f_take K)) = true) ∧
  (PySem.W.nsIn K mainGlobals "read_pattern" = some (some (.ref (A_f_read K)))) ∧
  (PySem.W.codeIn K (HH.fdO K (A_f_read K)).code "read_pattern" = true) ∧
  (PySem.W.keepIn K (.ref (A_f_read K)) = true) ∧
  (PySem.W.nsIn K mainGlobals "check_name" = some (some (.ref (A_f_name K)))) ∧
  (PySem.W.codeIn K (HH.fdO K (A_f_name K)).code "check_name" = true) ∧
  (PySem.W.keepIn K (.ref (A_f_name K)) = true) ∧
  (PySem.W.nsIn K mainGlobals "check_room" = some (some (.ref (A_f_roomC K)))) ∧
  (PySem.W.codeIn K (HH.fdO K (A_f_roomC K)).code "check_room" = true) ∧
  (PySem.W.keepIn K (.ref (A_f_roomC K)) = true) ∧
  (PySem.W.findIn K (.ref (A_C_B K)) "__len__" = some (some (.ref (A_f_blen K)))) ∧
  (PySem.W.isFn K (.ref (A_f_blen K)) = true) ∧
  (PySem.W.codeIn K (HH.fdO K (A_f_blen K)).code "Book.__len__" = true) ∧
  (PySem.W.keepIn K (.ref (A_f_blen K)) = true) ∧
  (PySem.W.findIn K (.ref (A_C_B K)) "__iter__" = some (some (.ref (A_f_biter K))))
abbrev EX3 (K : PySem.W.Frag) : Prop := (PySem.W.isFn K (.ref (A_f_biter K)) = true) ∧
  (PySem.W.codeIn K (HH.fdO K (A_f_biter K)).code "Book.__iter__" = true) ∧
  (PySem.W.keepIn K (.ref (A_f_biter K)) = true) ∧
  (PySem.W.findIn K (.ref (A_C_B K)) "__contains__" = some (some (.ref (A_f_bin K)))) ∧
  (PySem.W.isFn K (.ref (A_f_bin K)) = true) ∧
  (PySem.W.codeIn K (HH.fdO K (A_f_bin K)).code "Book.__contains__" = true) ∧
  (PySem.W.keepIn K (.ref (A_f_bin K)) = true) ∧
  (PySem.W.findIn K (.ref (A_C_B K)) "__setitem__" = some (some (.ref (A_f_bset K)))) ∧
  (PySem.W.isFn K (.ref (A_f_bset K)) = true) ∧
  (PySem.W.codeIn K (HH.fdO K (A_f_bset K)).code "Book.__setitem__" = true) ∧
  (PySem.W.keepIn K (.ref (A_f_bset K)) = true) ∧
  (PySem.W.findIn K (.ref (A_C_B K)) "drop" = some (some (.ref (A_f_bdrop K)))) ∧
  (PySem.W.isFn K (.ref (A_f_bdrop K)) = true) ∧
  (PySem.W.codeIn K (HH.fdO K (A_f_bdrop K)).code "Book.drop" = true) ∧
  (PySem.W.keepIn K (.ref (A_f_bdrop K)) = true) ∧
  (PySem.W.findIn K (.ref (A_C_B K)) "written" = some (some (.ref (A_f_bwr K)))) ∧
  (PySem.W.isFn K (.ref (A_f_bwr K)) = true) ∧
  (PySem.W.codeIn K (HH.fdO K (A_f_bwr K)).code "Book.written" = true) ∧
  (PySem.W.keepIn K (.ref (A_f_bwr K)) = true) ∧
  (PySem.W.findIn K (.ref (A_C_B K)) "__getitem__" = some (some (.ref (A_f_bget K))))
abbrev EX4 (K : PySem.W.Frag) : Prop := (PySem.W.isFn K (.ref (A_f_bget K)) = true) ∧
  (PySem.W.codeIn K (HH.fdO K (A_f_bget K)).code "Book.__getitem__" = true) ∧
  (PySem.W.keepIn K (.ref (A_f_bget K)) = true) ∧
  (PySem.W.findIn K (.ref (A_C_P K)) "__eq__" = some (some (.ref (A_f_peq K)))) ∧
  (PySem.W.isFn K (.ref (A_f_peq K)) = true) ∧
  (PySem.W.codeIn K (HH.fdO K (A_f_peq K)).code "Pattern.__eq__" = true) ∧
  (PySem.W.keepIn K (.ref (A_f_peq K)) = true) ∧
  (PySem.W.nsIn K mainGlobals "renamed" = some (some (.ref (A_f_renamed K)))) ∧
  (PySem.W.codeIn K (HH.fdO K (A_f_renamed K)).code "renamed" = true) ∧
  (PySem.W.keepIn K (.ref (A_f_renamed K)) = true) ∧
  (PySem.W.nsIn K mainGlobals "stepped" = some (some (.ref (A_f_stepped K)))) ∧
  (PySem.W.codeIn K (HH.fdO K (A_f_stepped K)).code "stepped" = true) ∧
  (PySem.W.keepIn K (.ref (A_f_stepped K)) = true) ∧
  (PySem.W.findIn K (.ref (A_C_J K)) "__len__" = some (some (.ref (A_f_jlen K)))) ∧
  (PySem.W.isFn K (.ref (A_f_jlen K)) = true) ∧
  (PySem.W.codeIn K (HH.fdO K (A_f_jlen K)).code "Journal.__len__" = true) ∧
  (PySem.W.keepIn K (.ref (A_f_jlen K)) = true) ∧
  (PySem.W.findIn K (.ref (A_C_J K)) "book_at" = some (some (.ref (A_f_jat K)))) ∧
  (PySem.W.isFn K (.ref (A_f_jat K)) = true) ∧
  (PySem.W.codeIn K (HH.fdO K (A_f_jat K)).code "Journal.book_at" = true)
abbrev EX5 (K : PySem.W.Frag) : Prop := (PySem.W.keepIn K (.ref (A_f_jat K)) = true) ∧
  (PySem.W.findIn K (.ref (A_C_J K)) "book" = some (some (.ref (A_f_jbook K)))) ∧
  (PySem.W.isFn K (.ref (A_f_jbook K)) = true) ∧
  (PySem.W.codeIn K (HH.fdO K (A_f_jbook K)).code "Journal.book" = true) ∧
  (PySem.W.keepIn K (.ref (A_f_jbook K)) = true) ∧
  (PySem.W.findIn K (.ref (A_C_J K)) "make" = some (some (.ref (A_f_jmake K)))) ∧
  (PySem.W.isFn K (.ref (A_f_jmake K)) = true) ∧
  (PySem.W.codeIn K (HH.fdO K (A_f_jmake K)).code "Journal.make" = true) ∧
  (PySem.W.keepIn K (.ref (A_f_jmake K)) = true) ∧
  (PySem.W.findIn K (.ref (A_C_J K)) "note" = some (some (.ref (A_f_jnote K)))) ∧
  (PySem.W.isFn K (.ref (A_f_jnote K)) = true) ∧
  (PySem.W.codeIn K (HH.fdO K (A_f_jnote K)).code "Journal.note" = true) ∧
  (PySem.W.keepIn K (.ref (A_f_jnote K)) = true) ∧
  (PySem.W.findIn K (.ref (A_C_J K)) "strike" = some (some (.ref (A_f_jstrike K)))) ∧
  (PySem.W.isFn K (.ref (A_f_jstrike K)) = true) ∧
  (PySem.W.codeIn K (HH.fdO K (A_f_jstrike K)).code "Journal.strike" = true) ∧
  (PySem.W.keepIn K (.ref (A_f_jstrike K)) = true) ∧
  (PySem.W.findIn K (.ref (A_C_J K)) "rename" = some (some (.ref (A_f_jren K)))) ∧
  (PySem.W.isFn K (.ref (A_f_jren K)) = true) ∧
  (PySem.W.codeIn K (HH.fdO K (A_f_jren K)).code "Journal.rename" = true)
abbrev EX6 (K : PySem.W.Frag) : Prop := (PySem.W.keepIn K (.ref (A_f_jren K)) = true) ∧
  (PySem.W.findIn K (.ref (A_C_J K)) "undo" = some (some (.ref (A_f_jundo K)))) ∧
  (PySem.W.isFn K (.ref (A_f_jundo K)) = true) ∧
  (PySem.W.codeIn K (HH.fdO K (A_f_jundo K)).code "Journal.undo" = true) ∧
  (PySem.W.keepIn K (.ref (A_f_jundo K)) = true) ∧
  (PySem.W.findIn K (.ref (A_C_J K)) "redo" = some (some (.ref (A_f_jredo K)))) ∧
  (PySem.W.isFn K (.ref (A_f_jredo K)) = true) ∧
  (PySem.W.codeIn K (HH.fdO K (A_f_jredo K)).code "Journal.redo" = true) ∧
  (PySem.W.keepIn K (.ref (A_f_jredo K)) = true) ∧
  (PySem.W.nsIn K mainGlobals "_law_new" = some (some (.ref (A_f_new K)))) ∧
  (PySem.W.codeIn K (HH.fdO K (A_f_new K)).code "_law_new" = true) ∧
  (PySem.W.keepIn K (.ref (A_f_new K)) = true) ∧
  (PySem.W.nsIn K mainGlobals "_law_draw" = some (some (.ref (A_f_draw K)))) ∧
  (PySem.W.codeIn K (HH.fdO K (A_f_draw K)).code "_law_draw" = true) ∧
  (PySem.W.keepIn K (.ref (A_f_draw K)) = true) ∧
  (PySem.W.nsIn K mainGlobals "_law_same" = some (some (.ref (A_f_same K)))) ∧
  (PySem.W.codeIn K (HH.fdO K (A_f_same K)).code "_law_same" = true) ∧
  (PySem.W.keepIn K (.ref (A_f_same K)) = true) ∧
  (PySem.W.nsIn K mainGlobals "_law_letters" = some (some (.ref (A_f_letters K)))) ∧
  (PySem.W.codeIn K (HH.fdO K (A_f_letters K)).code "_law_letters" = true)
abbrev EX7 (K : PySem.W.Frag) : Prop := (PySem.W.keepIn K (.ref (A_f_letters K)) = true) ∧
  (PySem.W.nsIn K mainGlobals "_law_classes" = some (some (.ref (A_f_classes K)))) ∧
  (PySem.W.codeIn K (HH.fdO K (A_f_classes K)).code "_law_classes" = true) ∧
  (PySem.W.keepIn K (.ref (A_f_classes K)) = true) ∧
  (PySem.W.nsIn K mainGlobals "_law_name" = some (some (.ref (A_f_lname K)))) ∧
  (PySem.W.codeIn K (HH.fdO K (A_f_lname K)).code "_law_name" = true) ∧
  (PySem.W.keepIn K (.ref (A_f_lname K)) = true) ∧
  (PySem.W.nsIn K mainGlobals "_law_named" = some (some (.ref (A_f_named K)))) ∧
  (PySem.W.codeIn K (HH.fdO K (A_f_named K)).code "_law_named" = true) ∧
  (PySem.W.keepIn K (.ref (A_f_named K)) = true) ∧
  (PySem.W.nsIn K mainGlobals "_law_some_name" = some (some (.ref (A_f_some K)))) ∧
  (PySem.W.codeIn K (HH.fdO K (A_f_some K)).code "_law_some_name" = true) ∧
  (PySem.W.keepIn K (.ref (A_f_some K)) = true) ∧
  (PySem.W.nsIn K mainGlobals "_law_text" = some (some (.ref (A_f_text K)))) ∧
  (PySem.W.codeIn K (HH.fdO K (A_f_text K)).code "_law_text" = true) ∧
  (PySem.W.keepIn K (.ref (A_f_text K)) = true) ∧
  (PySem.W.nsIn K mainGlobals "_law_behind" = some (some (.ref (A_f_behind K)))) ∧
  (PySem.W.codeIn K (HH.fdO K (A_f_behind K)).code "_law_behind" = true) ∧
  (PySem.W.keepIn K (.ref (A_f_behind K)) = true) ∧
  (PySem.W.nsIn K mainGlobals "_law_done" = some (some (.ref (A_f_done K))))
abbrev EX8 (K : PySem.W.Frag) : Prop := (PySem.W.codeIn K (HH.fdO K (A_f_done K)).code "_law_done" = true) ∧
  (PySem.W.keepIn K (.ref (A_f_done K)) = true) ∧
  (PySem.W.nsIn K mainGlobals "_law_at" = some (some (.ref (A_f_lat K)))) ∧
  (PySem.W.codeIn K (HH.fdO K (A_f_lat K)).code "_law_at" = true) ∧
  (PySem.W.keepIn K (.ref (A_f_lat K)) = true) ∧
  (PySem.W.nsIn K mainGlobals "_law_is" = some (some (.ref (A_f_is K)))) ∧
  (PySem.W.codeIn K (HH.fdO K (A_f_is K)).code "_law_is" = true) ∧
  (PySem.W.keepIn K (.ref (A_f_is K)) = true) ∧
  (PySem.W.nsIn K mainGlobals "_law_stands" = some (some (.ref (A_f_stands K)))) ∧
  (PySem.W.codeIn K (HH.fdO K (A_f_stands K)).code "_law_stands" = true) ∧
  (PySem.W.keepIn K (.ref (A_f_stands K)) = true) ∧
  (PySem.W.nsIn K mainGlobals "_law_earlier_books" = some (some (.ref (A_f_ear K)))) ∧
  (PySem.W.codeIn K (HH.fdO K (A_f_ear K)).code "_law_earlier_books" = true) ∧
  (PySem.W.keepIn K (.ref (A_f_ear K)) = true) ∧
  (PySem.W.nsIn K mainGlobals "_law_all_back" = some (some (.ref (A_f_back K)))) ∧
  (PySem.W.codeIn K (HH.fdO K (A_f_back K)).code "_law_all_back" = true) ∧
  (PySem.W.keepIn K (.ref (A_f_back K)) = true) ∧
  (PySem.W.nsIn K mainGlobals "law" = some (some (.ref (A_f_law K)))) ∧
  (PySem.W.codeIn K (HH.fdO K (A_f_law K)).code "law" = true) ∧
  (PySem.W.keepIn K (.ref (A_f_law K)) = true)
abbrev EX9 (K : PySem.W.Frag) : Prop := (PySem.W.plainGet K (A_C_R K) Str.empty = true) ∧
  (PySem.W.hasDictIn K (A_C_R K) = true) ∧
  (PySem.W.plainOver K (A_C_R K) = true) ∧
  (PySem.W.findIn K (.ref (A_C_R K)) "__setattr__" = some (some (.builtin "object.__setattr__"))) ∧
  (PySem.W.makesIn K (A_C_R K) = true) ∧
  (PySem.W.keepIn K (.ref (A_C_R K)) = true) ∧
  (PySem.W.plainGet K (A_C_P K) Str.empty = true) ∧
  (PySem.W.hasDictIn K (A_C_P K) = true) ∧
  (PySem.W.plainOver K (A_C_P K) = true) ∧
  (PySem.W.findIn K (.ref (A_C_P K)) "__setattr__" = some (some (.builtin "object.__setattr__"))) ∧
  (PySem.W.makesIn K (A_C_P K) = true) ∧
  (PySem.W.keepIn K (.ref (A_C_P K)) = true) ∧
  (PySem.W.plainGet K (A_C_B K) Str.empty = true) ∧
  (PySem.W.hasDictIn K (A_C_B K) = true) ∧
  (PySem.W.plainOver K (A_C_B K) = true) ∧
  (PySem.W.findIn K (.ref (A_C_B K)) "__setattr__" = some (some (.builtin "object.__setattr__"))) ∧
  (PySem.W.makesIn K (A_C_B K) = true) ∧
  (PySem.W.keepIn K (.ref (A_C_B K)) = true) ∧
  (PySem.W.plainGet K (A_C_J K) Str.empty = true) ∧
  (PySem.W.hasDictIn K (A_C_J K) = true)
abbrev EX10 (K : PySem.W.Frag) : Prop := (PySem.W.plainOver K (A_C_J K) = true) ∧
  (PySem.W.findIn K (.ref (A_C_J K)) "__setattr__" = some (some (.builtin "object.__setattr__"))) ∧
  (PySem.W.makesIn K (A_C_J K) = true) ∧
  (PySem.W.keepIn K (.ref (A_C_J K)) = true) ∧
  (PySem.W.findIn K (.ref (A_C_R K)) "letters" = some none) ∧
  (PySem.W.findIn K (.ref (A_C_R K)) "rows" = some none) ∧
  (PySem.W.findIn K (.ref (A_C_R K)) "operands" = some none) ∧
  (PySem.W.findIn K (.ref (A_C_R K)) "waiting" = some none) ∧
  (PySem.W.findIn K (.ref (A_C_R K)) "ready" = some none) ∧
  (PySem.W.findIn K (.ref (A_C_P K)) "letters" = some none) ∧
  (PySem.W.findIn K (.ref (A_C_P K)) "rows" = some none) ∧
  (PySem.W.findIn K (.ref (A_C_B K)) "letters" = some none) ∧
  (PySem.W.findIn K (.ref (A_C_B K)) "texts" = some none) ∧
  (PySem.W.findIn K (.ref (A_C_B K)) "patterns" = some none) ∧
  (PySem.W.findIn K (.ref (A_C_B K)) "former_texts" = some none) ∧
  (PySem.W.findIn K (.ref (A_C_B K)) "former_patterns" = some none) ∧
  (PySem.W.findIn K (.ref (A_C_B K)) "_room" = some none) ∧
  (PySem.W.findIn K (.ref (A_C_J K)) "_latest" = some none) ∧
  (PySem.W.findIn K (.ref (A_C_J K)) "_made" = some none) ∧
  (PySem.W.findIn K (.ref (A_C_J K)) "_undone" = some none)
abbrev EX11 (K : PySem.W.Frag) : Prop := (PySem.W.findIn K (.ref (A_C_J K)) "letters" = some none) ∧
  (PySem.W.nsIn K mainGlobals "MOST_LETTERS" = some (some (.int 3 (HH.tokOf (PySem.W.nsIn K mainGlobals "MOST_LETTERS"))))) ∧
  (PySem.W.nsIn K mainGlobals "SMALL_words" = some (some (.str "abcdefghijklmnopqrstuvwxyz" (HH.tokOf (PySem.W.nsIn K mainGlobals "SMALL_words"))))) ∧
  (PySem.W.nsIn K mainGlobals "MOST_TEXT" = some (some (.int 200 (HH.tokOf (PySem.W.nsIn K mainGlobals "MOST_TEXT"))))) ∧
  (PySem.W.nsIn K mainGlobals "MOST_NAMES" = some (some (.int 100 (HH.tokOf (PySem.W.nsIn K mainGlobals "MOST_NAMES"))))) ∧
  (PySem.W.nsIn K mainGlobals "MOST_NAME" = some (some (.int 12 (HH.tokOf (PySem.W.nsIn K mainGlobals "MOST_NAME"))))) ∧
  (PySem.W.nsIn K mainGlobals "SMALL_books" = some (some (.str "abcdefghijklmnopqrstuvwxyz" (HH.tokOf (PySem.W.nsIn K mainGlobals "SMALL_books"))))) ∧
  (PySem.W.nsIn K mainGlobals "DIGITS" = some (some (.str "0123456789" (HH.tokOf (PySem.W.nsIn K mainGlobals "DIGITS"))))) ∧
  (PySem.W.findIn K (.ref (A_C_P K)) "MOST_ROWS" = some (some (.int 16000 (HH.tokOf (PySem.W.findIn K (.ref (A_C_P K)) "MOST_ROWS"))))) ∧
  (PySem.W.specialIn K (.int 16000 (HH.tokOf (PySem.W.findIn K (.ref (A_C_P K)) "MOST_ROWS"))) "__get__" = some none) ∧
  (PySem.W.nsIn K mainGlobals "len" = some none) ∧
  (PySem.W.nsIn K mainGlobals "int" = some none) ∧
  (PySem.W.nsIn K mainGlobals "range" = some none) ∧
  (PySem.W.nsIn K mainGlobals "tuple" = some none) ∧
  (PySem.W.nsIn K mainGlobals "enumerate" = some none) ∧
  (PySem.W.nsIn K mainGlobals "list" = some none) ∧
  (PySem.W.nsIn K mainGlobals "isinstance" = some none) ∧
  (PySem.W.nsIn K mainGlobals "bool" = some none) ∧
  (PySem.W.nsIn K mainGlobals "str" = some none) ∧
  (PySem.W.nsIn K mainGlobals "super" = some none)
abbrev EX12 (K : PySem.W.Frag) : Prop := (PySem.W.nsIn K mainGlobals "ValueError" = some none) ∧
  (PySem.W.nsIn K mainGlobals "iter" = some none) ∧
  (PySem.W.nsIn K mainGlobals "ToolError" = some (some (.ref (A_E_1 K)))) ∧
  (PySem.W.hasDictIn K (A_E_1 K) = true) ∧
  (PySem.W.typeIn K (.ref (A_E_1 K)) = some (.type "type")) ∧
  (PySem.W.nsIn K mainGlobals "LettersError" = some (some (.ref (A_E_2 K)))) ∧
  (PySem.W.hasDictIn K (A_E_2 K) = true) ∧
  (PySem.W.typeIn K (.ref (A_E_2 K)) = some (.type "type")) ∧
  (PySem.W.nsIn K mainGlobals "MixedLetters" = some (some (.ref (A_E_3 K)))) ∧
  (PySem.W.hasDictIn K (A_E_3 K) = true) ∧
  (PySem.W.typeIn K (.ref (A_E_3 K)) = some (.type "type")) ∧
  (PySem.W.nsIn K mainGlobals "TableError" = some (some (.ref (A_E_4 K)))) ∧
  (PySem.W.hasDictIn K (A_E_4 K) = true) ∧
  (PySem.W.typeIn K (.ref (A_E_4 K)) = some (.type "type")) ∧
  (PySem.W.nsIn K mainGlobals "ActionError" = some (some (.ref (A_E_5 K)))) ∧
  (PySem.W.hasDictIn K (A_E_5 K) = true) ∧
  (PySem.W.typeIn K (.ref (A_E_5 K)) = some (.type "type")) ∧
  (PySem.W.nsIn K mainGlobals "LassoError" = some (some (.ref (A_E_6 K)))) ∧
  (PySem.W.hasDictIn K (A_E_6 K) = true) ∧
  (PySem.W.typeIn K (.ref (A_E_6 K)) = some (.type "type"))
abbrev EX13 (K : PySem.W.Frag) : Prop := (PySem.W.nsIn K mainGlobals "LetterError" = some (some (.ref (A_E_7 K)))) ∧
  (PySem.W.hasDictIn K (A_E_7 K) = true) ∧
  (PySem.W.typeIn K (.ref (A_E_7 K)) = some (.type "type")) ∧
  (PySem.W.nsIn K mainGlobals "StateError" = some (some (.ref (A_E_8 K)))) ∧
  (PySem.W.hasDictIn K (A_E_8 K) = true) ∧
  (PySem.W.typeIn K (.ref (A_E_8 K)) = some (.type "type")) ∧
  (PySem.W.subIn K (.ref (A_E_8 K)) (.type "BaseException") = some true) ∧
  (PySem.W.keepIn K (.ref (A_E_8 K)) = true) ∧
  (PySem.W.nsIn K mainGlobals "RowError" = some (some (.ref (A_E_9 K)))) ∧
  (PySem.W.hasDictIn K (A_E_9 K) = true) ∧
  (PySem.W.typeIn K (.ref (A_E_9 K)) = some (.type "type")) ∧
  (PySem.W.nsIn K mainGlobals "NotStarFree" = some (some (.ref (A_E_10 K)))) ∧
  (PySem.W.hasDictIn K (A_E_10 K) = true) ∧
  (PySem.W.typeIn K (.ref (A_E_10 K)) = some (.type "type")) ∧
  (PySem.W.nsIn K mainGlobals "TextError" = some (some (.ref (A_E_11 K)))) ∧
  (PySem.W.hasDictIn K (A_E_11 K) = true) ∧
  (PySem.W.typeIn K (.ref (A_E_11 K)) = some (.type "type")) ∧
  (PySem.W.subIn K (.ref (A_E_11 K)) (.type "BaseException") = some true) ∧
  (PySem.W.keepIn K (.ref (A_E_11 K)) = true) ∧
  (PySem.W.nsIn K mainGlobals "NameFault" = some (some (.ref (A_E_12 K))))
abbrev EX14 (K : PySem.W.Frag) : Prop := (PySem.W.hasDictIn K (A_E_12 K) = true) ∧
  (PySem.W.typeIn K (.ref (A_E_12 K)) = some (.type "type")) ∧
  (PySem.W.subIn K (.ref (A_E_12 K)) (.type "BaseException") = some true) ∧
  (PySem.W.keepIn K (.ref (A_E_12 K)) = true) ∧
  (PySem.W.nsIn K mainGlobals "LineError" = some (some (.ref (A_E_13 K)))) ∧
  (PySem.W.hasDictIn K (A_E_13 K) = true) ∧
  (PySem.W.typeIn K (.ref (A_E_13 K)) = some (.type "type")) ∧
  (PySem.W.nsIn K mainGlobals "CountsError" = some (some (.ref (A_E_14 K)))) ∧
  (PySem.W.hasDictIn K (A_E_14 K) = true) ∧
  (PySem.W.typeIn K (.ref (A_E_14 K)) = some (.type "type")) ∧
  (PySem.W.nsIn K mainGlobals "LimitError" = some (some (.ref (A_E_15 K)))) ∧
  (PySem.W.hasDictIn K (A_E_15 K) = true) ∧
  (PySem.W.typeIn K (.ref (A_E_15 K)) = some (.type "type")) ∧
  (PySem.W.subIn K (.ref (A_E_15 K)) (.type "BaseException") = some true) ∧
  (PySem.W.keepIn K (.ref (A_E_15 K)) = true) ∧
  (PySem.W.nsIn K mainGlobals "TooManyStates" = some (some (.ref (A_E_16 K)))) ∧
  (PySem.W.hasDictIn K (A_E_16 K) = true) ∧
  (PySem.W.typeIn K (.ref (A_E_16 K)) = some (.type "type")) ∧
  (PySem.W.nsIn K mainGlobals "TooManyActions" = some (some (.ref (A_E_17 K)))) ∧
  (PySem.W.hasDictIn K (A_E_17 K) = true)
abbrev EX15 (K : PySem.W.Frag) : Prop := (PySem.W.typeIn K (.ref (A_E_17 K)) = some (.type "type")) ∧
  (PySem.W.nsIn K mainGlobals "TooManyRows" = some (some (.ref (A_E_18 K)))) ∧
  (PySem.W.hasDictIn K (A_E_18 K) = true) ∧
  (PySem.W.typeIn K (.ref (A_E_18 K)) = some (.type "type")) ∧
  (PySem.W.subIn K (.ref (A_E_8 K)) (.ref (A_E_1 K)) = some true) ∧
  (PySem.W.subIn K (.ref (A_E_8 K)) (.ref (A_E_2 K)) = some false) ∧
  (PySem.W.subIn K (.ref (A_E_8 K)) (.ref (A_E_3 K)) = some false) ∧
  (PySem.W.subIn K (.ref (A_E_8 K)) (.ref (A_E_4 K)) = some false) ∧
  (PySem.W.subIn K (.ref (A_E_8 K)) (.ref (A_E_5 K)) = some false) ∧
  (PySem.W.subIn K (.ref (A_E_8 K)) (.ref (A_E_6 K)) = some false) ∧
  (PySem.W.subIn K (.ref (A_E_8 K)) (.ref (A_E_7 K)) = some false) ∧
  (PySem.W.subIn K (.ref (A_E_8 K)) (.ref (A_E_8 K)) = some true) ∧
  (PySem.W.subIn K (.ref (A_E_8 K)) (.ref (A_E_9 K)) = some false) ∧
  (PySem.W.subIn K (.ref (A_E_8 K)) (.ref (A_E_10 K)) = some false) ∧
  (PySem.W.subIn K (.ref (A_E_8 K)) (.ref (A_E_11 K)) = some false) ∧
  (PySem.W.subIn K (.ref (A_E_8 K)) (.ref (A_E_12 K)) = some false) ∧
  (PySem.W.subIn K (.ref (A_E_8 K)) (.ref (A_E_13 K)) = some false) ∧
  (PySem.W.subIn K (.ref (A_E_8 K)) (.ref (A_E_14 K)) = some false) ∧
  (PySem.W.subIn K (.ref (A_E_8 K)) (.ref (A_E_15 K)) = some false) ∧
  (PySem.W.subIn K (.ref (A_E_8 K)) (.ref (A_E_16 K)) = some false)
abbrev EX16 (K : PySem.W.Frag) : Prop := (PySem.W.subIn K (.ref (A_E_8 K)) (.ref (A_E_17 K)) = some false) ∧
  (PySem.W.subIn K (.ref (A_E_8 K)) (.ref (A_E_18 K)) = some false) ∧
  (PySem.W.subIn K (.ref (A_E_8 K)) (.type "ValueError") = some true) ∧
  (PySem.W.findIn K (.ref (A_E_8 K)) "__getattribute__" = some (some (.builtin "BaseException.__getattribute__"))) ∧
  (PySem.W.findIn K (.ref (A_E_8 K)) "__getattr__" = some none) ∧
  (PySem.W.findIn K (.ref (A_E_8 K)) "__class__" = some (some (.builtin "object.__class__"))) ∧
  (PySem.W.mroIn K (A_E_8 K) (.type "object") = some true) ∧
  (PySem.W.subIn K (.ref (A_E_11 K)) (.ref (A_E_1 K)) = some true) ∧
  (PySem.W.subIn K (.ref (A_E_11 K)) (.ref (A_E_2 K)) = some false) ∧
  (PySem.W.subIn K (.ref (A_E_11 K)) (.ref (A_E_3 K)) = some false) ∧
  (PySem.W.subIn K (.ref (A_E_11 K)) (.ref (A_E_4 K)) = some false) ∧
  (PySem.W.subIn K (.ref (A_E_11 K)) (.ref (A_E_5 K)) = some false) ∧
  (PySem.W.subIn K (.ref (A_E_11 K)) (.ref (A_E_6 K)) = some false) ∧
  (PySem.W.subIn K (.ref (A_E_11 K)) (.ref (A_E_7 K)) = some false) ∧
  (PySem.W.subIn K (.ref (A_E_11 K)) (.ref (A_E_8 K)) = some false) ∧
  (PySem.W.subIn K (.ref (A_E_11 K)) (.ref (A_E_9 K)) = some false) ∧
  (PySem.W.subIn K (.ref (A_E_11 K)) (.ref (A_E_10 K)) = some false) ∧
  (PySem.W.subIn K (.ref (A_E_11 K)) (.ref (A_E_11 K)) = some true) ∧
  (PySem.W.subIn K (.ref (A_E_11 K)) (.ref (A_E_12 K)) = some false) ∧
  (PySem.W.subIn K (.ref (A_E_11 K)) (.ref (A_E_13 K)) = some false)
abbrev EX17 (K : PySem.W.Frag) : Prop := (PySem.W.subIn K (.ref (A_E_11 K)) (.ref (A_E_14 K)) = some false) ∧
  (PySem.W.subIn K (.ref (A_E_11 K)) (.ref (A_E_15 K)) = some false) ∧
  (PySem.W.subIn K (.ref (A_E_11 K)) (.ref (A_E_16 K)) = some false) ∧
  (PySem.W.subIn K (.ref (A_E_11 K)) (.ref (A_E_17 K)) = some false) ∧
  (PySem.W.subIn K (.ref (A_E_11 K)) (.ref (A_E_18 K)) = some false) ∧
  (PySem.W.subIn K (.ref (A_E_11 K)) (.type "ValueError") = some true) ∧
  (PySem.W.findIn K (.ref (A_E_11 K)) "__getattribute__" = some (some (.builtin "BaseException.__getattribute__"))) ∧
  (PySem.W.findIn K (.ref (A_E_11 K)) "__getattr__" = some none) ∧
  (PySem.W.findIn K (.ref (A_E_11 K)) "__class__" = some (some (.builtin "object.__class__"))) ∧
  (PySem.W.mroIn K (A_E_11 K) (.type "object") = some true) ∧
  (PySem.W.subIn K (.ref (A_E_12 K)) (.ref (A_E_1 K)) = some true) ∧
  (PySem.W.subIn K (.ref (A_E_12 K)) (.ref (A_E_2 K)) = some false) ∧
  (PySem.W.subIn K (.ref (A_E_12 K)) (.ref (A_E_3 K)) = some false) ∧
  (PySem.W.subIn K (.ref (A_E_12 K)) (.ref (A_E_4 K)) = some false) ∧
  (PySem.W.subIn K (.ref (A_E_12 K)) (.ref (A_E_5 K)) = some false) ∧
  (PySem.W.subIn K (.ref (A_E_12 K)) (.ref (A_E_6 K)) = some false) ∧
  (PySem.W.subIn K (.ref (A_E_12 K)) (.ref (A_E_7 K)) = some false) ∧
  (PySem.W.subIn K (.ref (A_E_12 K)) (.ref (A_E_8 K)) = some false) ∧
  (PySem.W.subIn K (.ref (A_E_12 K)) (.ref (A_E_9 K)) = some false) ∧
  (PySem.W.subIn K (.ref (A_E_12 K)) (.ref (A_E_10 K)) = some false)
abbrev EX18 (K : PySem.W.Frag) : Prop := (PySem.W.subIn K (.ref (A_E_12 K)) (.ref (A_E_11 K)) = some false) ∧
  (PySem.W.subIn K (.ref (A_E_12 K)) (.ref (A_E_12 K)) = some true) ∧
  (PySem.W.subIn K (.ref (A_E_12 K)) (.ref (A_E_13 K)) = some false) ∧
  (PySem.W.subIn K (.ref (A_E_12 K)) (.ref (A_E_14 K)) = some false) ∧
  (PySem.W.subIn K (.ref (A_E_12 K)) (.ref (A_E_15 K)) = some false) ∧
  (PySem.W.subIn K (.ref (A_E_12 K)) (.ref (A_E_16 K)) = some false) ∧
  (PySem.W.subIn K (.ref (A_E_12 K)) (.ref (A_E_17 K)) = some false) ∧
  (PySem.W.subIn K (.ref (A_E_12 K)) (.ref (A_E_18 K)) = some false) ∧
  (PySem.W.subIn K (.ref (A_E_12 K)) (.type "ValueError") = some true) ∧
  (PySem.W.findIn K (.ref (A_E_12 K)) "__getattribute__" = some (some (.builtin "BaseException.__getattribute__"))) ∧
  (PySem.W.findIn K (.ref (A_E_12 K)) "__getattr__" = some none) ∧
  (PySem.W.findIn K (.ref (A_E_12 K)) "__class__" = some (some (.builtin "object.__class__"))) ∧
  (PySem.W.mroIn K (A_E_12 K) (.type "object") = some true) ∧
  (PySem.W.subIn K (.ref (A_E_15 K)) (.ref (A_E_1 K)) = some true) ∧
  (PySem.W.subIn K (.ref (A_E_15 K)) (.ref (A_E_2 K)) = some false) ∧
  (PySem.W.subIn K (.ref (A_E_15 K)) (.ref (A_E_3 K)) = some false) ∧
  (PySem.W.subIn K (.ref (A_E_15 K)) (.ref (A_E_4 K)) = some false) ∧
  (PySem.W.subIn K (.ref (A_E_15 K)) (.ref (A_E_5 K)) = some false) ∧
  (PySem.W.subIn K (.ref (A_E_15 K)) (.ref (A_E_6 K)) = some false) ∧
  (PySem.W.subIn K (.ref (A_E_15 K)) (.ref (A_E_7 K)) = some false)
abbrev EX19 (K : PySem.W.Frag) : Prop := (PySem.W.subIn K (.ref (A_E_15 K)) (.ref (A_E_8 K)) = some false) ∧
  (PySem.W.subIn K (.ref (A_E_15 K)) (.ref (A_E_9 K)) = some false) ∧
  (PySem.W.subIn K (.ref (A_E_15 K)) (.ref (A_E_10 K)) = some false) ∧
  (PySem.W.subIn K (.ref (A_E_15 K)) (.ref (A_E_11 K)) = some false) ∧
  (PySem.W.subIn K (.ref (A_E_15 K)) (.ref (A_E_12 K)) = some false) ∧
  (PySem.W.subIn K (.ref (A_E_15 K)) (.ref (A_E_13 K)) = some false) ∧
  (PySem.W.subIn K (.ref (A_E_15 K)) (.ref (A_E_14 K)) = some false) ∧
  (PySem.W.subIn K (.ref (A_E_15 K)) (.ref (A_E_15 K)) = some true) ∧
  (PySem.W.subIn K (.ref (A_E_15 K)) (.ref (A_E_16 K)) = some false) ∧
  (PySem.W.subIn K (.ref (A_E_15 K)) (.ref (A_E_17 K)) = some false) ∧
  (PySem.W.subIn K (.ref (A_E_15 K)) (.ref (A_E_18 K)) = some false) ∧
  (PySem.W.subIn K (.ref (A_E_15 K)) (.type "ValueError") = some true) ∧
  (PySem.W.findIn K (.ref (A_E_15 K)) "__getattribute__" = some (some (.builtin "BaseException.__getattribute__"))) ∧
  (PySem.W.findIn K (.ref (A_E_15 K)) "__getattr__" = some none) ∧
  (PySem.W.findIn K (.ref (A_E_15 K)) "__class__" = some (some (.builtin "object.__class__"))) ∧
  (PySem.W.mroIn K (A_E_15 K) (.type "object") = some true) ∧
  (PySem.W.specialIn K (.builtin "object.__class__") "__get__" = some (some (.builtin "getset_descriptor.__get__"))) ∧
  (PySem.W.takesIn K (.builtin "object.__class__") = some true) ∧
  (HH.isXc K (A_E_8 K) "ValueError.__new__" = true) ∧
  (HandSPX.refsVE (HH.cdO K (A_E_8 K)).mro.tail = true)
abbrev EX20 (K : PySem.W.Frag) : Prop := (PySem.W.findIn K (.ref (A_E_8 K)) "__setattr__" = some (some (.builtin "object.__setattr__"))) ∧
  (PySem.W.findIn K (.ref (A_E_8 K)) "state" = some none) ∧
  (PySem.W.findIn K (.ref (A_E_8 K)) "__init__" = some (some (.ref (A_I_8 K)))) ∧
  (PySem.W.typeIn K (.ref (A_I_8 K)) = some (.type "function")) ∧
  ((HH.fdO K (A_I_8 K)).kwdefaults = .none) ∧
  ((HH.fdO K (A_I_8 K)).code = .ref (A_cda_8 K)) ∧
  (PySem.W.codeIn K (.ref (A_cda_8 K)) "StateError.__init__" = true) ∧
  (HH.isFs K (A_cda_8 K) = true) ∧
  ((HH.fsO K (A_cda_8 K))[2]? = some (.str "/claim/cut.py" (HH.tokV (((HH.fsO K (A_cda_8 K))[2]?).getD .none)))) ∧
  (HH.isCell K (HH.ccO K (A_I_8 K)) (A_E_8 K) = true) ∧
  ((PySem.W.clsIn K (A_E_8 K)).isSome = true) ∧
  (PySem.W.mroIn K (A_E_8 K) (.ref (A_E_8 K)) = some true) ∧
  (PySem.W.ks_superIn K (A_E_8 K) (A_E_8 K) "__init__" = some (some (.builtin "ValueError.__init__"))) ∧
  (HH.isXc K (A_E_11 K) "ValueError.__new__" = true) ∧
  (HandSPX.refsVE (HH.cdO K (A_E_11 K)).mro.tail = true) ∧
  (PySem.W.findIn K (.ref (A_E_11 K)) "__setattr__" = some (some (.builtin "object.__setattr__"))) ∧
  (PySem.W.findIn K (.ref (A_E_11 K)) "index" = some none) ∧
  (PySem.W.findIn K (.ref (A_E_11 K)) "__init__" = some (some (.ref (A_I_11 K)))) ∧
  (PySem.W.typeIn K (.ref (A_I_11 K)) = some (.type "function")) ∧
  ((HH.fdO K (A_I_11 K)).kwdefaults = .none)
abbrev EX21 (K : PySem.W.Frag) : Prop := ((HH.fdO K (A_I_11 K)).code = .ref (A_cda_11 K)) ∧
  (PySem.W.codeIn K (.ref (A_cda_11 K)) "TextError.__init__" = true) ∧
  (HH.isFs K (A_cda_11 K) = true) ∧
  ((HH.fsO K (A_cda_11 K))[2]? = some (.str "/claim/cut.py" (HH.tokV (((HH.fsO K (A_cda_11 K))[2]?).getD .none)))) ∧
  (HH.isCell K (HH.ccO K (A_I_11 K)) (A_E_11 K) = true) ∧
  ((PySem.W.clsIn K (A_E_11 K)).isSome = true) ∧
  (PySem.W.mroIn K (A_E_11 K) (.ref (A_E_11 K)) = some true) ∧
  (PySem.W.ks_superIn K (A_E_11 K) (A_E_11 K) "__init__" = some (some (.builtin "ValueError.__init__"))) ∧
  (HH.isXc K (A_E_12 K) "ValueError.__new__" = true) ∧
  (HandSPX.refsVE (HH.cdO K (A_E_12 K)).mro.tail = true) ∧
  (PySem.W.findIn K (.ref (A_E_12 K)) "__setattr__" = some (some (.builtin "object.__setattr__"))) ∧
  (PySem.W.findIn K (.ref (A_E_12 K)) "name" = some none) ∧
  (PySem.W.findIn K (.ref (A_E_12 K)) "__init__" = some (some (.ref (A_I_12 K)))) ∧
  (PySem.W.typeIn K (.ref (A_I_12 K)) = some (.type "function")) ∧
  ((HH.fdO K (A_I_12 K)).kwdefaults = .none) ∧
  ((HH.fdO K (A_I_12 K)).code = .ref (A_cda_12 K)) ∧
  (PySem.W.codeIn K (.ref (A_cda_12 K)) "NameFault.__init__" = true) ∧
  (HH.isFs K (A_cda_12 K) = true) ∧
  ((HH.fsO K (A_cda_12 K))[2]? = some (.str "/claim/cut.py" (HH.tokV (((HH.fsO K (A_cda_12 K))[2]?).getD .none)))) ∧
  (HH.isCell K (HH.ccO K (A_I_12 K)) (A_E_12 K) = true)
abbrev EX22 (K : PySem.W.Frag) : Prop := ((PySem.W.clsIn K (A_E_12 K)).isSome = true) ∧
  (PySem.W.mroIn K (A_E_12 K) (.ref (A_E_12 K)) = some true) ∧
  (PySem.W.ks_superIn K (A_E_12 K) (A_E_12 K) "__init__" = some (some (.builtin "ValueError.__init__"))) ∧
  (HH.isXc K (A_E_15 K) "ValueError.__new__" = true) ∧
  (HandSPX.refsVE (HH.cdO K (A_E_15 K)).mro.tail = true) ∧
  (PySem.W.findIn K (.ref (A_E_15 K)) "__setattr__" = some (some (.builtin "object.__setattr__"))) ∧
  (PySem.W.findIn K (.ref (A_E_15 K)) "limit" = some none) ∧
  (PySem.W.findIn K (.ref (A_E_15 K)) "__init__" = some (some (.ref (A_I_15 K)))) ∧
  (PySem.W.typeIn K (.ref (A_I_15 K)) = some (.type "function")) ∧
  ((HH.fdO K (A_I_15 K)).kwdefaults = .none) ∧
  ((HH.fdO K (A_I_15 K)).code = .ref (A_cda_15 K)) ∧
  (PySem.W.codeIn K (.ref (A_cda_15 K)) "LimitError.__init__" = true) ∧
  (HH.isFs K (A_cda_15 K) = true) ∧
  ((HH.fsO K (A_cda_15 K))[2]? = some (.str "/claim/cut.py" (HH.tokV (((HH.fsO K (A_cda_15 K))[2]?).getD .none)))) ∧
  (HH.isCell K (HH.ccO K (A_I_15 K)) (A_E_15 K) = true) ∧
  ((PySem.W.clsIn K (A_E_15 K)).isSome = true) ∧
  (PySem.W.mroIn K (A_E_15 K) (.ref (A_E_15 K)) = some true) ∧
  (PySem.W.ks_superIn K (A_E_15 K) (A_E_15 K) "__init__" = some (some (.builtin "ValueError.__init__"))) ∧
  (PySem.W.nsIn K cStatics "thirdparty.any" = some none) ∧
  (PySem.W.nsIn K mainGlobals "BINDING" = some (some (.ref (A_D_B K))))
abbrev EX23 (K : PySem.W.Frag) : Prop := (PySem.W.nsIn K mainGlobals "PARTS" = some (some (.ref (A_D_P K)))) ∧
  (PySem.W.nsIn K (A_D_B K) "(" = some (some (.int 0 (HH.tokOf (PySem.W.nsIn K (A_D_B K) "("))))) ∧
  (PySem.W.nsIn K (A_D_B K) "|" = some (some (.int 1 (HH.tokOf (PySem.W.nsIn K (A_D_B K) "|"))))) ∧
  (PySem.W.nsIn K (A_D_B K) "&" = some (some (.int 2 (HH.tokOf (PySem.W.nsIn K (A_D_B K) "&"))))) ∧
  (PySem.W.nsIn K (A_D_B K) "+" = some (some (.int 3 (HH.tokOf (PySem.W.nsIn K (A_D_B K) "+"))))) ∧
  (PySem.W.nsIn K (A_D_B K) "~" = some (some (.int 4 (HH.tokOf (PySem.W.nsIn K (A_D_B K) "~"))))) ∧
  (PySem.W.nsIn K (A_D_P K) "empty" = some (some (.int 0 (HH.tokOf (PySem.W.nsIn K (A_D_P K) "empty"))))) ∧
  (PySem.W.nsIn K (A_D_P K) "not" = some (some (.int 1 (HH.tokOf (PySem.W.nsIn K (A_D_P K) "not"))))) ∧
  (PySem.W.nsIn K (A_D_P K) "again" = some (some (.int 1 (HH.tokOf (PySem.W.nsIn K (A_D_P K) "again"))))) ∧
  (PySem.W.nsIn K (A_D_P K) "then" = some (some (.int 2 (HH.tokOf (PySem.W.nsIn K (A_D_P K) "then"))))) ∧
  (PySem.W.findIn K (.ref (A_C_J K)) "__init__" = some (some (.ref (A_f_ji K)))) ∧
  (PySem.W.isFn K (.ref (A_f_ji K)) = true) ∧
  ((HH.fdO K (A_f_ji K)).defaults = .ref (A_dt_ji K)) ∧
  (PySem.W.codeIn K (HH.fdO K (A_f_ji K)).code "Journal.__init__" = true) ∧
  (PySem.W.keepIn K (.ref (A_f_ji K)) = true) ∧
  (HH.isSq K (A_dt_ji K) = true) ∧
  (HH.sqO K (A_dt_ji K) = #[.int 20 (HH.tokV (((HH.sqO K (A_dt_ji K))[0]?).getD .none))]) ∧
  (PySem.W.fnIn K (A_f_bget K) = true) ∧
  (PySem.W.findIn K (.ref (A_C_P K)) "__class__" = some (some (.builtin "object.__class__"))) ∧
  (PySem.W.mroIn K (A_C_P K) (.type "object") = some true)
abbrev EX24 (K : PySem.W.Frag) : Prop := (PySem.W.typeIn K (.ref (A_C_P K)) = some (.type "type")) ∧
  (PySem.W.subIn K (.ref (A_C_P K)) (.ref (A_C_P K)) = some true) ∧
  (PySem.W.findIn K (.ref (A_C_B K)) "__init__" = some (some (.ref (A_f_bi K)))) ∧
  (PySem.W.isFn K (.ref (A_f_bi K)) = true) ∧
  ((HH.fdO K (A_f_bi K)).defaults = .ref (A_dt_bi K)) ∧
  (PySem.W.codeIn K (HH.fdO K (A_f_bi K)).code "Book.__init__" = true) ∧
  (PySem.W.keepIn K (.ref (A_f_bi K)) = true) ∧
  (HH.isSq K (A_dt_bi K) = true) ∧
  (HH.sqO K (A_dt_bi K) = #[.int 20 (HH.tokV (((HH.sqO K (A_dt_bi K))[0]?).getD .none))]) ∧
  (PySem.W.findIn K (.ref (A_C_B K)) "room" = some (some (.ref (A_p_rm K)))) ∧
  (PySem.W.specialIn K (.ref (A_p_rm K)) "__get__" = some (some (.builtin "property.__get__"))) ∧
  (PySem.W.takesIn K (.ref (A_p_rm K)) = some true) ∧
  (PySem.W.recIn K (A_p_rm K) "property" = some (.ref (A_g_rm K) :: (HH.tlOf (PySem.W.recIn K (A_p_rm K) "property")))) ∧
  (PySem.W.codeIn K (HH.fdO K (A_g_rm K)).code "Book.room" = true) ∧
  (PySem.W.keepIn K (.ref (A_g_rm K)) = true) ∧
  (PySem.W.specialIn K (.ref (A_f_put K)) "__get__" = some (some (.builtin "function.__get__"))) ∧
  (PySem.W.takesIn K (.ref (A_f_put K)) = some false) ∧
  (PySem.W.fnIn K (A_f_put K) = true) ∧
  (PySem.W.noSeq K (A_C_B K) = true) ∧
  (PySem.W.findIn K (.ref (A_C_B K)) "__class__" = some (some (.builtin "object.__class__")))
abbrev EX25 (K : PySem.W.Frag) : Prop := (PySem.W.mroIn K (A_C_B K) (.type "object") = some true) ∧
  (PySem.W.typeIn K (.ref (A_C_B K)) = some (.type "type")) ∧
  (PySem.W.subIn K (.ref (A_C_B K)) (.ref (A_C_B K)) = some true)
def ex (K : PySem.W.Frag) : Bool := decide (EX0 K) && (decide (EX1 K) && (decide (EX2 K) && (decide (EX3 K) && (decide (EX4 K) && (decide (EX5 K) && (decide (EX6 K) && (decide (EX7 K) && (decide (EX8 K) && (decide (EX9 K) && (decide (EX10 K) && (decide (EX11 K) && (decide (EX12 K) && (decide (EX13 K) && (decide (EX14 K) && (decide (EX15 K) && (decide (EX16 K) && (decide (EX17 K) && (decide (EX18 K) && (decide (EX19 K) && (decide (EX20 K) && (decide (EX21 K) && (decide (EX22 K) && (decide (EX23 K) && (decide (EX24 K) && (decide (EX25 K))))))))))))))))))))))))))
def fs (K : PySem.W.Frag) : List Addr := (A_f_checkL K) :: (A_f_fits K) :: (A_f_pinit K) :: (A_f_rinit K) :: (A_f_put K) :: (A_f_comb K) :: (A_f_down K) :: (A_f_wait K) :: (A_f_beg K) :: (A_f_close K) :: (A_f_take K) :: (A_f_read K) :: (A_f_name K) :: (A_f_roomC K) :: (A_f_blen K) :: (A_f_biter K) :: (A_f_bin K) :: (A_f_bset K) :: (A_f_bdrop K) :: (A_f_bwr K) ::
  (A_f_bget K) :: (A_f_peq K) :: (A_f_renamed K) :: (A_f_stepped K) :: (A_f_jlen K) :: (A_f_jat K) :: (A_f_jbook K) :: (A_f_jmake K) :: (A_f_jnote K) :: (A_f_jstrike K) :: (A_f_jren K) :: (A_f_jundo K) :: (A_f_jredo K) :: (A_f_new K) :: (A_f_draw K) :: (A_f_same K) :: (A_f_letters K) :: (A_f_classes K) :: (A_f_lname K) :: (A_f_named K) ::
  (A_f_some K) :: (A_f_text K) :: (A_f_behind K) :: (A_f_done K) :: (A_f_lat K) :: (A_f_is K) :: (A_f_stands K) :: (A_f_ear K) :: (A_f_back K) :: (A_f_law K) :: (A_I_8 K) :: (A_I_11 K) :: (A_I_12 K) :: (A_I_15 K) :: (A_f_ji K) :: (A_f_bi K) :: (A_g_rm K) ::
  []
def vs : List HH.FnN := (HH.rowN "check_letters" "check_letters" sCheckL [] true) :: (HH.rowN "fits" "fits" sFits [] true) :: (HH.rowN "__init__" "Pattern.__init__" sPInit [] true) :: (HH.rowN "__init__" "Reader.__init__" sRInit [] true) :: (HH.rowN "put" "Reader.put" sPut [] true) :: (HH.rowN "combine" "Reader.combine" sCombine [] true) :: (HH.rowN "combine_down_to" "Reader.combine_down_to" sDown [] true) :: (HH.rowN "wait" "Reader.wait" sWait [] true) :: (HH.rowN "begin" "Reader.begin" sBegin [] true) :: (HH.rowN "close" "Reader.close" sClose [] true) :: (HH.rowN "take" "Reader.take" sTake [] true) :: (HH.rowN "read_pattern" "read_pattern" sRead [] true) :: (HH.rowN "check_name" "check_name" sName [] true) :: (HH.rowN "check_room" "check_room" sRoomC [] true) :: (HH.rowN "__len__" "Book.__len__" sBLen [] true) :: (HH.rowN "__iter__" "Book.__iter__" sBIter [] true) :: (HH.rowN "__contains__" "Book.__contains__" sBIn [] true) :: (HH.rowN "__setitem__" "Book.__setitem__" sBSet [] true) :: (HH.rowN "drop" "Book.drop" sBDrop [] true) :: (HH.rowN "written" "Book.written" sBWritten [] true) ::
  (HH.rowN "__getitem__" "Book.__getitem__" sBGet [] true) :: (HH.rowN "__eq__" "Pattern.__eq__" sPEq [] true) :: (HH.rowN "renamed" "renamed" sRenamed [] true) :: (HH.rowN "stepped" "stepped" sStepped [] true) :: (HH.rowN "__len__" "Journal.__len__" sJLen [] true) :: (HH.rowN "book_at" "Journal.book_at" sJAt [] true) :: (HH.rowN "book" "Journal.book" sJBook [] true) :: (HH.rowN "make" "Journal.make" sJMake [] true) :: (HH.rowN "note" "Journal.note" sJNote [] true) :: (HH.rowN "strike" "Journal.strike" sJStrike [] true) :: (HH.rowN "rename" "Journal.rename" sJRen [] true) :: (HH.rowN "undo" "Journal.undo" sJUndo [] true) :: (HH.rowN "redo" "Journal.redo" sJRedo [] true) :: (HH.rowN "_law_new" "_law_new" sNew [] true) :: (HH.rowN "_law_draw" "_law_draw" sDraw [] true) :: (HH.rowN "_law_same" "_law_same" sSame [] true) :: (HH.rowN "_law_letters" "_law_letters" sLetters [] true) :: (HH.rowN "_law_classes" "_law_classes" sClasses [] true) :: (HH.rowN "_law_name" "_law_name" sLName [] true) :: (HH.rowN "_law_named" "_law_named" sNamed [] true) ::
  (HH.rowN "_law_some_name" "_law_some_name" sSome [] true) :: (HH.rowN "_law_text" "_law_text" sText [] true) :: (HH.rowN "_law_behind" "_law_behind" sBehind [] true) :: (HH.rowN "_law_done" "_law_done" sDone [] true) :: (HH.rowN "_law_at" "_law_at" sLAt [] true) :: (HH.rowN "_law_is" "_law_is" sIs [] true) :: (HH.rowN "_law_stands" "_law_stands" sStands [] true) :: (HH.rowN "_law_earlier_books" "_law_earlier_books" sEar [] true) :: (HH.rowN "_law_all_back" "_law_all_back" sBack [] true) :: (HH.rowN "law" "law" sLaw [] true) :: (HH.rowN "__init__" "StateError.__init__" sXi_8 ["__class__"] true) :: (HH.rowN "__init__" "TextError.__init__" sXi_11 ["__class__"] true) :: (HH.rowN "__init__" "NameFault.__init__" sXi_12 ["__class__"] true) :: (HH.rowN "__init__" "LimitError.__init__" sXi_15 ["__class__"] true) :: (HH.rowN "__init__" "Journal.__init__" sJInit [] false) :: (HH.rowN "__init__" "Book.__init__" sBInit [] false) :: (HH.rowN "room" "Book.room" sBRoom [] true) ::
  []
def ts : List He.Tab := [(A_D_B, ["(", "|", "&", "+", "~"]), (A_D_P, ["empty", "not", "again", "then"])]
abbrev roots0 : List PySem.Str := ["Reader", "Pattern", "Book", "Journal", "check_letters", "fits", "read_pattern", "check_name", "check_room", "renamed", "stepped", "_law_new", "_law_draw", "_law_same", "_law_letters", "_law_classes", "_law_name", "_law_named", "_law_some_name", "_law_text"]
abbrev roots1 : List PySem.Str := ["_law_behind", "_law_done", "_law_at", "_law_is", "_law_stands", "_law_earlier_books", "_law_all_back", "law", "ToolError", "LettersError", "MixedLetters", "TableError", "ActionError", "LassoError", "LetterError", "StateError", "RowError", "NotStarFree", "TextError", "NameFault"]
abbrev roots2 : List PySem.Str := ["LineError", "CountsError", "LimitError", "TooManyStates", "TooManyActions", "TooManyRows", "BINDING", "PARTS"]
abbrev roots : List PySem.Str := List.append roots0 (List.append roots1 (roots2))
abbrev loose0 : List PySem.Str := ["_wall", "__name__", "ToolError", "LettersError", "LetterError", "MixedLetters", "StateError", "TableError", "RowError", "NotStarFree", "TextError", "NameFault", "LineError", "ActionError", "LassoError", "LimitError", "TooManyStates", "TooManyActions", "TooManyRows", "CountsError"]
abbrev loose1 : List PySem.Str := ["__name__", "MOST_LETTERS", "SMALL_words", "check_letters", "check_word", "__name__", "joined", "chained", "repeated", "row_spans", "all_spans", "__name__", "MOST_TIMES", "PARTS", "fits", "shifted", "word_rows", "Pattern", "same_letters", "as_pattern"]
abbrev loose2 : List PySem.Str := ["times_pattern", "__name__", "MOST_TEXT", "BINDING", "Reader", "read_pattern", "__name__", "MOST_NAMES", "MOST_NAME", "SMALL_books", "DIGITS", "check_name", "Book", "check_room", "__name__", "renamed", "stepped", "step_line", "Journal", "__name__"]
abbrev loose3 : List PySem.Str := ["_law_new", "_law_draw", "_law_same", "_law_letters", "_law_classes", "_law_name", "_law_named", "_law_some_name", "_law_text", "_law_behind", "_law_done", "_law_at", "_law_is", "_law_stands", "_law_earlier_books", "_law_all_back"]
abbrev loose : List PySem.Str := List.append loose0 (List.append loose1 (List.append loose2 (loose3)))
abbrev R : PySem.W.OpenRow := PySem.W.OpenLaw.row PySem.Challenge.rw_turtlestold_k87_whole_steps_taken_back
abbrev hk : PySem.W.Hook := HH.hookH fs ts ex roots vs
def obs (s : PySem.W.SharedT) : HH.AlH := HH.obsH fs ts ex roots (HandSHeadRun.getT s)
theorem obs_eq (s : PySem.W.SharedT) : obs s = hk.obs s.abs := HH.obsH_eq fs ts ex (HandSHeadRun.getT_eq s)
end W8

set_option Elab.async false
set_option linter.all false
set_option maxRecDepth 100000
set_option maxHeartbeats 0
namespace W8
open PySem PySem.Spec PyProof.Rows L2 L2E
theorem run_f (w : World) : HandSHeadRun.RunEq R (PySem.W.view R.prog [76]) hk obs 10000 loose (w.withFollow "special-get-raises" false) := by
  intro os
  kernel_rfl
end W8

set_option Elab.async false
set_option linter.all false
set_option maxRecDepth 100000
set_option maxHeartbeats 0
namespace W8
open PySem PySem.Spec PyProof.Rows L2 L2E
theorem run_t (w : World) : HandSHeadRun.RunEq R (PySem.W.view R.prog [76]) hk obs 10000 loose (w.withFollow "special-get-raises" true) := by
  intro os
  kernel_rfl
end W8

set_option Elab.async false
set_option linter.all false
set_option maxRecDepth 100000
set_option maxHeartbeats 0
namespace W8
open PySem PySem.Spec PyProof.Rows L2 L2E
theorem run (w : World) : HandSHeadRun.RunEq R (PySem.W.view R.prog [76]) hk obs 10000 loose w := PySem.W.byRow2 "special-get-raises" run_f run_t w
theorem facts {w : World} {K : PySem.W.Frag} {h : Heap} {mg : Str → Option Value} {fa : Addr} (X : K.In h) (G : h.Ns mainGlobals mg) (hfa : mg "law" = some (.ref fa)) (c : HH.obsK fs ts ex K = HH.valH ts vs w) :
    ∃ fd : FuncData, (∀ (s : Shared) (v : Value), BindsTo s fd ⟨[v], []⟩ [("script", v)]) ∧ ∀ base : Heap, K.In base → base.Ns mainGlobals mg → FnOk PySem.Challenge.pw_turtlestold_k87_whole_steps_taken_back w K mg base CX0 15 fa fd ["script"] (spLaw K) := by
  have e := HH.says_ex c
  have e0 : EX0 K := of_decide_eq_true (He.ba e).1
  replace e := (He.ba e).2
  have e1 : EX1 K := of_decide_eq_true (He.ba e).1
  replace e := (He.ba e).2
  have e2 : EX2 K := of_decide_eq_true (He.ba e).1
  replace e := (He.ba e).2
  have e3 : EX3 K := of_decide_eq_true (He.ba e).1
  replace e := (He.ba e).2
  have e4 : EX4 K := of_decide_eq_true (He.ba e).1
  replace e := (He.ba e).2
  have e5 : EX5 K := of_decide_eq_true (He.ba e).1
  replace e := (He.ba e).2
  have e6 : EX6 K := of_decide_eq_true (He.ba e).1
  replace e := (He.ba e).2
  have e7 : EX7 K := of_decide_eq_true (He.ba e).1
  replace e := (He.ba e).2
  have e8 : EX8 K := of_decide_eq_true (He.ba e).1
  replace e := (He.ba e).2
  have e9 : EX9 K := of_decide_eq_true (He.ba e).1
  replace e := (He.ba e).2
  have e10 : EX10 K := of_decide_eq_true (He.ba e).1
  replace e := (He.ba e).2
  have e11 : EX11 K := of_decide_eq_true (He.ba e).1
  replace e := (He.ba e).2
  have e12 : EX12 K := of_decide_eq_true (He.ba e).1
  replace e := (He.ba e).2
  have e13 : EX13 K := of_decide_eq_true (He.ba e).1
  replace e := (He.ba e).2
  have e14 : EX14 K := of_decide_eq_true (He.ba e).1
  replace e := (He.ba e).2
  have e15 : EX15 K := of_decide_eq_true (He.ba e).1
  replace e := (He.ba e).2
  have e16 : EX16 K := of_decide_eq_true (He.ba e).1
  replace e := (He.ba e).2
  have e17 : EX17 K := of_decide_eq_true (He.ba e).1
  replace e := (He.ba e).2
  have e18 : EX18 K := of_decide_eq_true (He.ba e).1
  replace e := (He.ba e).2
  have e19 : EX19 K := of_decide_eq_true (He.ba e).1
  replace e := (He.ba e).2
  have e20 : EX20 K := of_decide_eq_true (He.ba e).1
  replace e := (He.ba e).2
  have e21 : EX21 K := of_decide_eq_true (He.ba e).1
  replace e := (He.ba e).2
  have e22 : EX22 K := of_decide_eq_true (He.ba e).1
  replace e := (He.ba e).2
  have e23 : EX23 K := of_decide_eq_true (He.ba e).1
  replace e := (He.ba e).2
  have e24 : EX24 K := of_decide_eq_true (He.ba e).1
  replace e := (He.ba e).2
  have e25 : EX25 K := of_decide_eq_true e
  clear e
  obtain ⟨es_B, n_B, kd_D_B⟩ := HH.says_tab c 0
  obtain ⟨es_P, n_P, kd_D_P⟩ := HH.says_tab c 1
  exact all_mk (l := PySem.Challenge.rw_turtlestold_k87_whole_steps_taken_back) (w := w) X G hfa
    e0.1
    e0.2.1
    e0.2.2.1
    e0.2.2.2.1
    e0.2.2.2.2.1
    (HH.fn_l (st := sCheckL) (HH.says_fn c 0))
    e0.2.2.2.2.2.1
    e0.2.2.2.2.2.2.1
    e0.2.2.2.2.2.2.2.1
    (HH.fn_l (st := sFits) (HH.says_fn c 1))
    e0.2.2.2.2.2.2.2.2.1
    e0.2.2.2.2.2.2.2.2.2.1
    e0.2.2.2.2.2.2.2.2.2.2.1
    e0.2.2.2.2.2.2.2.2.2.2.2.1
    (HH.fn_l (st := sPInit) (HH.says_fn c 2))
    e0.2.2.2.2.2.2.2.2.2.2.2.2.1
    e0.2.2.2.2.2.2.2.2.2.2.2.2.2.1
    e0.2.2.2.2.2.2.2.2.2.2.2.2.2.2.1
    e0.2.2.2.2.2.2.2.2.2.2.2.2.2.2.2.1
    (HH.fn_l (st := sRInit) (HH.says_fn c 3))
    e0.2.2.2.2.2.2.2.2.2.2.2.2.2.2.2.2.1
    e0.2.2.2.2.2.2.2.2.2.2.2.2.2.2.2.2.2.1
    e0.2.2.2.2.2.2.2.2.2.2.2.2.2.2.2.2.2.2.1
    e0.2.2.2.2.2.2.2.2.2.2.2.2.2.2.2.2.2.2.2
    (HH.fn_l (st := sPut) (HH.says_fn c 4))
    e1.1
    e1.2.1
    e1.2.2.1
    e1.2.2.2.1
    (HH.fn_l (st := sCombine) (HH.says_fn c 5))
    e1.2.2.2.2.1
    e1.2.2.2.2.2.1
    e1.2.2.2.2.2.2.1
    e1.2.2.2.2.2.2.2.1
    (HH.fn_l (st := sDown) (HH.says_fn c 6))
    e1.2.2.2.2.2.2.2.2.1
    e1.2.2.2.2.2.2.2.2.2.1
    e1.2.2.2.2.2.2.2.2.2.2.1
    e1.2.2.2.2.2.2.2.2.2.2.2.1
    (HH.fn_l (st := sWait) (HH.says_fn c 7))
    e1.2.2.2.2.2.2.2.2.2.2.2.2.1
    e1.2.2.2.2.2.2.2.2.2.2.2.2.2.1
    e1.2.2.2.2.2.2.2.2.2.2.2.2.2.2.1
    e1.2.2.2.2.2.2.2.2.2.2.2.2.2.2.2.1
    (HH.fn_l (st := sBegin) (HH.says_fn c 8))
    e1.2.2.2.2.2.2.2.2.2.2.2.2.2.2.2.2.1
    e1.2.2.2.2.2.2.2.2.2.2.2.2.2.2.2.2.2.1
    e1.2.2.2.2.2.2.2.2.2.2.2.2.2.2.2.2.2.2.1
    e1.2.2.2.2.2.2.2.2.2.2.2.2.2.2.2.2.2.2.2
    (HH.fn_l (st := sClose) (HH.says_fn c 9))
    e2.1
    e2.2.1
    e2.2.2.1
    e2.2.2.2.1
    (HH.fn_l (st := sTake) (HH.says_fn c 10))
    e2.2.2.2.2.1
    e2.2.2.2.2.2.1
    e2.2.2.2.2.2.2.1
    (HH.fn_l (st := sRead) (HH.says_fn c 11))
    e2.2.2.2.2.2.2.2.1
    e2.2.2.2.2.2.2.2.2.1
    e2.2.2.2.2.2.2.2.2.2.1
    (HH.fn_l (st := sName) (HH.says_fn c 12))
    e2.2.2.2.2.2.2.2.2.2.2.1
    e2.2.2.2.2.2.2.2.2.2.2.2.1
    e2.2.2.2.2.2.2.2.2.2.2.2.2.1
    (HH.fn_l (st := sRoomC) (HH.says_fn c 13))
    e2.2.2.2.2.2.2.2.2.2.2.2.2.2.1
    e2.2.2.2.2.2.2.2.2.2.2.2.2.2.2.1
    e2.2.2.2.2.2.2.2.2.2.2.2.2.2.2.2.1
    e2.2.2.2.2.2.2.2.2.2.2.2.2.2.2.2.2.1
    (HH.fn_l (st := sBLen) (HH.says_fn c 14))
    e2.2.2.2.2.2.2.2.2.2.2.2.2.2.2.2.2.2.1
    e2.2.2.2.2.2.2.2.2.2.2.2.2.2.2.2.2.2.2.1
    e2.2.2.2.2.2.2.2.2.2.2.2.2.2.2.2.2.2.2.2
    e3.1
    (HH.fn_l (st := sBIter) (HH.says_fn c 15))
    e3.2.1
    e3.2.2.1
    e3.2.2.2.1
    e3.2.2.2.2.1
    (HH.fn_l (st := sBIn) (HH.says_fn c 16))
    e3.2.2.2.2.2.1
    e3.2.2.2.2.2.2.1
    e3.2.2.2.2.2.2.2.1
    e3.2.2.2.2.2.2.2.2.1
    (HH.fn_l (st := sBSet) (HH.says_fn c 17))
    e3.2.2.2.2.2.2.2.2.2.1
    e3.2.2.2.2.2.2.2.2.2.2.1
    e3.2.2.2.2.2.2.2.2.2.2.2.1
    e3.2.2.2.2.2.2.2.2.2.2.2.2.1
    (HH.fn_l (st := sBDrop) (HH.says_fn c 18))
    e3.2.2.2.2.2.2.2.2.2.2.2.2.2.1
    e3.2.2.2.2.2.2.2.2.2.2.2.2.2.2.1
    e3.2.2.2.2.2.2.2.2.2.2.2.2.2.2.2.1
    e3.2.2.2.2.2.2.2.2.2.2.2.2.2.2.2.2.1
    (HH.fn_l (st := sBWritten) (HH.says_fn c 19))
    e3.2.2.2.2.2.2.2.2.2.2.2.2.2.2.2.2.2.1
    e3.2.2.2.2.2.2.2.2.2.2.2.2.2.2.2.2.2.2.1
    e3.2.2.2.2.2.2.2.2.2.2.2.2.2.2.2.2.2.2.2
    e4.1
    (HH.fn_l (st := sBGet) (HH.says_fn c 20))
    e4.2.1
    e4.2.2.1
    e4.2.2.2.1
    e4.2.2.2.2.1
    (HH.fn_l (st := sPEq) (HH.says_fn c 21))
    e4.2.2.2.2.2.1
    e4.2.2.2.2.2.2.1
    e4.2.2.2.2.2.2.2.1
    (HH.fn_l (st := sRenamed) (HH.says_fn c 22))
    e4.2.2.2.2.2.2.2.2.1
    e4.2.2.2.2.2.2.2.2.2.1
    e4.2.2.2.2.2.2.2.2.2.2.1
    (HH.fn_l (st := sStepped) (HH.says_fn c 23))
    e4.2.2.2.2.2.2.2.2.2.2.2.1
    e4.2.2.2.2.2.2.2.2.2.2.2.2.1
    e4.2.2.2.2.2.2.2.2.2.2.2.2.2.1
    e4.2.2.2.2.2.2.2.2.2.2.2.2.2.2.1
    (HH.fn_l (st := sJLen) (HH.says_fn c 24))
    e4.2.2.2.2.2.2.2.2.2.2.2.2.2.2.2.1
    e4.2.2.2.2.2.2.2.2.2.2.2.2.2.2.2.2.1
    e4.2.2.2.2.2.2.2.2.2.2.2.2.2.2.2.2.2.1
    e4.2.2.2.2.2.2.2.2.2.2.2.2.2.2.2.2.2.2.1
    (HH.fn_l (st := sJAt) (HH.says_fn c 25))
    e4.2.2.2.2.2.2.2.2.2.2.2.2.2.2.2.2.2.2.2
    e5.1
    e5.2.1
    e5.2.2.1
    (HH.fn_l (st := sJBook) (HH.says_fn c 26))
    e5.2.2.2.1
    e5.2.2.2.2.1
    e5.2.2.2.2.2.1
    e5.2.2.2.2.2.2.1
    (HH.fn_l (st := sJMake) (HH.says_fn c 27))
    e5.2.2.2.2.2.2.2.1
    e5.2.2.2.2.2.2.2.2.1
    e5.2.2.2.2.2.2.2.2.2.1
    e5.2.2.2.2.2.2.2.2.2.2.1
    (HH.fn_l (st := sJNote) (HH.says_fn c 28))
    e5.2.2.2.2.2.2.2.2.2.2.2.1
    e5.2.2.2.2.2.2.2.2.2.2.2.2.1
    e5.2.2.2.2.2.2.2.2.2.2.2.2.2.1
    e5.2.2.2.2.2.2.2.2.2.2.2.2.2.2.1
    (HH.fn_l (st := sJStrike) (HH.says_fn c 29))
    e5.2.2.2.2.2.2.2.2.2.2.2.2.2.2.2.1
    e5.2.2.2.2.2.2.2.2.2.2.2.2.2.2.2.2.1
    e5.2.2.2.2.2.2.2.2.2.2.2.2.2.2.2.2.2.1
    e5.2.2.2.2.2.2.2.2.2.2.2.2.2.2.2.2.2.2.1
    (HH.fn_l (st := sJRen) (HH.says_fn c 30))
    e5.2.2.2.2.2.2.2.2.2.2.2.2.2.2.2.2.2.2.2
    e6.1
    e6.2.1
    e6.2.2.1
    (HH.fn_l (st := sJUndo) (HH.says_fn c 31))
    e6.2.2.2.1
    e6.2.2.2.2.1
    e6.2.2.2.2.2.1
    e6.2.2.2.2.2.2.1
    (HH.fn_l (st := sJRedo) (HH.says_fn c 32))
    e6.2.2.2.2.2.2.2.1
    e6.2.2.2.2.2.2.2.2.1
    e6.2.2.2.2.2.2.2.2.2.1
    (HH.fn_l (st := sNew) (HH.says_fn c 33))
    e6.2.2.2.2.2.2.2.2.2.2.1
    e6.2.2.2.2.2.2.2.2.2.2.2.1
    e6.2.2.2.2.2.2.2.2.2.2.2.2.1
    (HH.fn_l (st := sDraw) (HH.says_fn c 34))
    e6.2.2.2.2.2.2.2.2.2.2.2.2.2.1
    e6.2.2.2.2.2.2.2.2.2.2.2.2.2.2.1
    e6.2.2.2.2.2.2.2.2.2.2.2.2.2.2.2.1
    (HH.fn_l (st := sSame) (HH.says_fn c 35))
    e6.2.2.2.2.2.2.2.2.2.2.2.2.2.2.2.2.1
    e6.2.2.2.2.2.2.2.2.2.2.2.2.2.2.2.2.2.1
    e6.2.2.2.2.2.2.2.2.2.2.2.2.2.2.2.2.2.2.1
    (HH.fn_l (st := sLetters) (HH.says_fn c 36))
    e6.2.2.2.2.2.2.2.2.2.2.2.2.2.2.2.2.2.2.2
    e7.1
    e7.2.1
    (HH.fn_l (st := sClasses) (HH.says_fn c 37))
    e7.2.2.1
    e7.2.2.2.1
    e7.2.2.2.2.1
    (HH.fn_l (st := sLName) (HH.says_fn c 38))
    e7.2.2.2.2.2.1
    e7.2.2.2.2.2.2.1
    e7.2.2.2.2.2.2.2.1
    (HH.fn_l (st := sNamed) (HH.says_fn c 39))
    e7.2.2.2.2.2.2.2.2.1
    e7.2.2.2.2.2.2.2.2.2.1
    e7.2.2.2.2.2.2.2.2.2.2.1
    (HH.fn_l (st := sSome) (HH.says_fn c 40))
    e7.2.2.2.2.2.2.2.2.2.2.2.1
    e7.2.2.2.2.2.2.2.2.2.2.2.2.1
    e7.2.2.2.2.2.2.2.2.2.2.2.2.2.1
    (HH.fn_l (st := sText) (HH.says_fn c 41))
    e7.2.2.2.2.2.2.2.2.2.2.2.2.2.2.1
    e7.2.2.2.2.2.2.2.2.2.2.2.2.2.2.2.1
    e7.2.2.2.2.2.2.2.2.2.2.2.2.2.2.2.2.1
    (HH.fn_l (st := sBehind) (HH.says_fn c 42))
    e7.2.2.2.2.2.2.2.2.2.2.2.2.2.2.2.2.2.1
    e7.2.2.2.2.2.2.2.2.2.2.2.2.2.2.2.2.2.2.1
    e7.2.2.2.2.2.2.2.2.2.2.2.2.2.2.2.2.2.2.2
    (HH.fn_l (st := sDone) (HH.says_fn c 43))
    e8.1
    e8.2.1
    e8.2.2.1
    (HH.fn_l (st := sLAt) (HH.says_fn c 44))
    e8.2.2.2.1
    e8.2.2.2.2.1
    e8.2.2.2.2.2.1
    (HH.fn_l (st := sIs) (HH.says_fn c 45))
    e8.2.2.2.2.2.2.1
    e8.2.2.2.2.2.2.2.1
    e8.2.2.2.2.2.2.2.2.1
    (HH.fn_l (st := sStands) (HH.says_fn c 46))
    e8.2.2.2.2.2.2.2.2.2.1
    e8.2.2.2.2.2.2.2.2.2.2.1
    e8.2.2.2.2.2.2.2.2.2.2.2.1
    (HH.fn_l (st := sEar) (HH.says_fn c 47))
    e8.2.2.2.2.2.2.2.2.2.2.2.2.1
    e8.2.2.2.2.2.2.2.2.2.2.2.2.2.1
    e8.2.2.2.2.2.2.2.2.2.2.2.2.2.2.1
    (HH.fn_l (st := sBack) (HH.says_fn c 48))
    e8.2.2.2.2.2.2.2.2.2.2.2.2.2.2.2.1
    e8.2.2.2.2.2.2.2.2.2.2.2.2.2.2.2.2.1
    e8.2.2.2.2.2.2.2.2.2.2.2.2.2.2.2.2.2.1
    (HH.fn_l (st := sLaw) (HH.says_fn c 49))
    e8.2.2.2.2.2.2.2.2.2.2.2.2.2.2.2.2.2.2.1
    e8.2.2.2.2.2.2.2.2.2.2.2.2.2.2.2.2.2.2.2
    e9.1
    e9.2.1
    e9.2.2.1
    e9.2.2.2.1
    e9.2.2.2.2.1
    e9.2.2.2.2.2.1
    e9.2.2.2.2.2.2.1
    e9.2.2.2.2.2.2.2.1
    e9.2.2.2.2.2.2.2.2.1
    e9.2.2.2.2.2.2.2.2.2.1
    e9.2.2.2.2.2.2.2.2.2.2.1
    e9.2.2.2.2.2.2.2.2.2.2.2.1
    e9.2.2.2.2.2.2.2.2.2.2.2.2.1
    e9.2.2.2.2.2.2.2.2.2.2.2.2.2.1
    e9.2.2.2.2.2.2.2.2.2.2.2.2.2.2.1
    e9.2.2.2.2.2.2.2.2.2.2.2.2.2.2.2.1
    e9.2.2.2.2.2.2.2.2.2.2.2.2.2.2.2.2.1
    e9.2.2.2.2.2.2.2.2.2.2.2.2.2.2.2.2.2.1
    e9.2.2.2.2.2.2.2.2.2.2.2.2.2.2.2.2.2.2.1
    e9.2.2.2.2.2.2.2.2.2.2.2.2.2.2.2.2.2.2.2
    e10.1
    e10.2.1
    e10.2.2.1
    e10.2.2.2.1
    e10.2.2.2.2.1
    e10.2.2.2.2.2.1
    e10.2.2.2.2.2.2.1
    e10.2.2.2.2.2.2.2.1
    e10.2.2.2.2.2.2.2.2.1
    e10.2.2.2.2.2.2.2.2.2.1
    e10.2.2.2.2.2.2.2.2.2.2.1
    e10.2.2.2.2.2.2.2.2.2.2.2.1
    e10.2.2.2.2.2.2.2.2.2.2.2.2.1
    e10.2.2.2.2.2.2.2.2.2.2.2.2.2.1
    e10.2.2.2.2.2.2.2.2.2.2.2.2.2.2.1
    e10.2.2.2.2.2.2.2.2.2.2.2.2.2.2.2.1
    e10.2.2.2.2.2.2.2.2.2.2.2.2.2.2.2.2.1
    e10.2.2.2.2.2.2.2.2.2.2.2.2.2.2.2.2.2.1
    e10.2.2.2.2.2.2.2.2.2.2.2.2.2.2.2.2.2.2.1
    e10.2.2.2.2.2.2.2.2.2.2.2.2.2.2.2.2.2.2.2
    e11.1
    e11.2.1
    e11.2.2.1
    e11.2.2.2.1
    e11.2.2.2.2.1
    e11.2.2.2.2.2.1
    e11.2.2.2.2.2.2.1
    e11.2.2.2.2.2.2.2.1
    e11.2.2.2.2.2.2.2.2.1
    e11.2.2.2.2.2.2.2.2.2.1
    e11.2.2.2.2.2.2.2.2.2.2.1
    e11.2.2.2.2.2.2.2.2.2.2.2.1
    e11.2.2.2.2.2.2.2.2.2.2.2.2.1
    e11.2.2.2.2.2.2.2.2.2.2.2.2.2.1
    e11.2.2.2.2.2.2.2.2.2.2.2.2.2.2.1
    e11.2.2.2.2.2.2.2.2.2.2.2.2.2.2.2.1
    e11.2.2.2.2.2.2.2.2.2.2.2.2.2.2.2.2.1
    e11.2.2.2.2.2.2.2.2.2.2.2.2.2.2.2.2.2.1
    e11.2.2.2.2.2.2.2.2.2.2.2.2.2.2.2.2.2.2.1
    e11.2.2.2.2.2.2.2.2.2.2.2.2.2.2.2.2.2.2.2
    e12.1
    e12.2.1
    e12.2.2.1
    e12.2.2.2.1
    e12.2.2.2.2.1
    e12.2.2.2.2.2.1
    e12.2.2.2.2.2.2.1
    e12.2.2.2.2.2.2.2.1
    e12.2.2.2.2.2.2.2.2.1
    e12.2.2.2.2.2.2.2.2.2.1
    e12.2.2.2.2.2.2.2.2.2.2.1
    e12.2.2.2.2.2.2.2.2.2.2.2.1
    e12.2.2.2.2.2.2.2.2.2.2.2.2.1
    e12.2.2.2.2.2.2.2.2.2.2.2.2.2.1
    e12.2.2.2.2.2.2.2.2.2.2.2.2.2.2.1
    e12.2.2.2.2.2.2.2.2.2.2.2.2.2.2.2.1
    e12.2.2.2.2.2.2.2.2.2.2.2.2.2.2.2.2.1
    e12.2.2.2.2.2.2.2.2.2.2.2.2.2.2.2.2.2.1
    e12.2.2.2.2.2.2.2.2.2.2.2.2.2.2.2.2.2.2.1
    e12.2.2.2.2.2.2.2.2.2.2.2.2.2.2.2.2.2.2.2
    e13.1
    e13.2.1
    e13.2.2.1
    e13.2.2.2.1
    e13.2.2.2.2.1
    e13.2.2.2.2.2.1
    e13.2.2.2.2.2.2.1
    e13.2.2.2.2.2.2.2.1
    e13.2.2.2.2.2.2.2.2.1
    e13.2.2.2.2.2.2.2.2.2.1
    e13.2.2.2.2.2.2.2.2.2.2.1
    e13.2.2.2.2.2.2.2.2.2.2.2.1
    e13.2.2.2.2.2.2.2.2.2.2.2.2.1
    e13.2.2.2.2.2.2.2.2.2.2.2.2.2.1
    e13.2.2.2.2.2.2.2.2.2.2.2.2.2.2.1
    e13.2.2.2.2.2.2.2.2.2.2.2.2.2.2.2.1
    e13.2.2.2.2.2.2.2.2.2.2.2.2.2.2.2.2.1
    e13.2.2.2.2.2.2.2.2.2.2.2.2.2.2.2.2.2.1
    e13.2.2.2.2.2.2.2.2.2.2.2.2.2.2.2.2.2.2.1
    e13.2.2.2.2.2.2.2.2.2.2.2.2.2.2.2.2.2.2.2
    e14.1
    e14.2.1
    e14.2.2.1
    e14.2.2.2.1
    e14.2.2.2.2.1
    e14.2.2.2.2.2.1
    e14.2.2.2.2.2.2.1
    e14.2.2.2.2.2.2.2.1
    e14.2.2.2.2.2.2.2.2.1
    e14.2.2.2.2.2.2.2.2.2.1
    e14.2.2.2.2.2.2.2.2.2.2.1
    e14.2.2.2.2.2.2.2.2.2.2.2.1
    e14.2.2.2.2.2.2.2.2.2.2.2.2.1
    e14.2.2.2.2.2.2.2.2.2.2.2.2.2.1
    e14.2.2.2.2.2.2.2.2.2.2.2.2.2.2.1
    e14.2.2.2.2.2.2.2.2.2.2.2.2.2.2.2.1
    e14.2.2.2.2.2.2.2.2.2.2.2.2.2.2.2.2.1
    e14.2.2.2.2.2.2.2.2.2.2.2.2.2.2.2.2.2.1
    e14.2.2.2.2.2.2.2.2.2.2.2.2.2.2.2.2.2.2.1
    e14.2.2.2.2.2.2.2.2.2.2.2.2.2.2.2.2.2.2.2
    e15.1
    e15.2.1
    e15.2.2.1
    e15.2.2.2.1
    e15.2.2.2.2.1
    e15.2.2.2.2.2.1
    e15.2.2.2.2.2.2.1
    e15.2.2.2.2.2.2.2.1
    e15.2.2.2.2.2.2.2.2.1
    e15.2.2.2.2.2.2.2.2.2.1
    e15.2.2.2.2.2.2.2.2.2.2.1
    e15.2.2.2.2.2.2.2.2.2.2.2.1
    e15.2.2.2.2.2.2.2.2.2.2.2.2.1
    e15.2.2.2.2.2.2.2.2.2.2.2.2.2.1
    e15.2.2.2.2.2.2.2.2.2.2.2.2.2.2.1
    e15.2.2.2.2.2.2.2.2.2.2.2.2.2.2.2.1
    e15.2.2.2.2.2.2.2.2.2.2.2.2.2.2.2.2.1
    e15.2.2.2.2.2.2.2.2.2.2.2.2.2.2.2.2.2.1
    e15.2.2.2.2.2.2.2.2.2.2.2.2.2.2.2.2.2.2.1
    e15.2.2.2.2.2.2.2.2.2.2.2.2.2.2.2.2.2.2.2
    e16.1
    e16.2.1
    e16.2.2.1
    e16.2.2.2.1
    e16.2.2.2.2.1
    e16.2.2.2.2.2.1
    e16.2.2.2.2.2.2.1
    e16.2.2.2.2.2.2.2.1
    e16.2.2.2.2.2.2.2.2.1
    e16.2.2.2.2.2.2.2.2.2.1
    e16.2.2.2.2.2.2.2.2.2.2.1
    e16.2.2.2.2.2.2.2.2.2.2.2.1
    e16.2.2.2.2.2.2.2.2.2.2.2.2.1
    e16.2.2.2.2.2.2.2.2.2.2.2.2.2.1
    e16.2.2.2.2.2.2.2.2.2.2.2.2.2.2.1
    e16.2.2.2.2.2.2.2.2.2.2.2.2.2.2.2.1
    e16.2.2.2.2.2.2.2.2.2.2.2.2.2.2.2.2.1
    e16.2.2.2.2.2.2.2.2.2.2.2.2.2.2.2.2.2.1
    e16.2.2.2.2.2.2.2.2.2.2.2.2.2.2.2.2.2.2.1
    e16.2.2.2.2.2.2.2.2.2.2.2.2.2.2.2.2.2.2.2
    e17.1
    e17.2.1
    e17.2.2.1
    e17.2.2.2.1
    e17.2.2.2.2.1
    e17.2.2.2.2.2.1
    e17.2.2.2.2.2.2.1
    e17.2.2.2.2.2.2.2.1
    e17.2.2.2.2.2.2.2.2.1
    e17.2.2.2.2.2.2.2.2.2.1
    e17.2.2.2.2.2.2.2.2.2.2.1
    e17.2.2.2.2.2.2.2.2.2.2.2.1
    e17.2.2.2.2.2.2.2.2.2.2.2.2.1
    e17.2.2.2.2.2.2.2.2.2.2.2.2.2.1
    e17.2.2.2.2.2.2.2.2.2.2.2.2.2.2.1
    e17.2.2.2.2.2.2.2.2.2.2.2.2.2.2.2.1
    e17.2.2.2.2.2.2.2.2.2.2.2.2.2.2.2.2.1
    e17.2.2.2.2.2.2.2.2.2.2.2.2.2.2.2.2.2.1
    e17.2.2.2.2.2.2.2.2.2.2.2.2.2.2.2.2.2.2.1
    e17.2.2.2.2.2.2.2.2.2.2.2.2.2.2.2.2.2.2.2
    e18.1
    e18.2.1
    e18.2.2.1
    e18.2.2.2.1
    e18.2.2.2.2.1
    e18.2.2.2.2.2.1
    e18.2.2.2.2.2.2.1
    e18.2.2.2.2.2.2.2.1
    e18.2.2.2.2.2.2.2.2.1
    e18.2.2.2.2.2.2.2.2.2.1
    e18.2.2.2.2.2.2.2.2.2.2.1
    e18.2.2.2.2.2.2.2.2.2.2.2.1
    e18.2.2.2.2.2.2.2.2.2.2.2.2.1
    e18.2.2.2.2.2.2.2.2.2.2.2.2.2.1
    e18.2.2.2.2.2.2.2.2.2.2.2.2.2.2.1
    e18.2.2.2.2.2.2.2.2.2.2.2.2.2.2.2.1
    e18.2.2.2.2.2.2.2.2.2.2.2.2.2.2.2.2.1
    e18.2.2.2.2.2.2.2.2.2.2.2.2.2.2.2.2.2.1
    e18.2.2.2.2.2.2.2.2.2.2.2.2.2.2.2.2.2.2.1
    e18.2.2.2.2.2.2.2.2.2.2.2.2.2.2.2.2.2.2.2
    e19.1
    e19.2.1
    e19.2.2.1
    e19.2.2.2.1
    e19.2.2.2.2.1
    e19.2.2.2.2.2.1
    e19.2.2.2.2.2.2.1
    e19.2.2.2.2.2.2.2.1
    e19.2.2.2.2.2.2.2.2.1
    e19.2.2.2.2.2.2.2.2.2.1
    e19.2.2.2.2.2.2.2.2.2.2.1
    e19.2.2.2.2.2.2.2.2.2.2.2.1
    e19.2.2.2.2.2.2.2.2.2.2.2.2.1
    e19.2.2.2.2.2.2.2.2.2.2.2.2.2.1
    e19.2.2.2.2.2.2.2.2.2.2.2.2.2.2.1
    e19.2.2.2.2.2.2.2.2.2.2.2.2.2.2.2.1
    e19.2.2.2.2.2.2.2.2.2.2.2.2.2.2.2.2.1
    e19.2.2.2.2.2.2.2.2.2.2.2.2.2.2.2.2.2.1
    (HH.xc_l e19.2.2.2.2.2.2.2.2.2.2.2.2.2.2.2.2.2.2.1)
    e19.2.2.2.2.2.2.2.2.2.2.2.2.2.2.2.2.2.2.2
    e20.1
    e20.2.1
    e20.2.2.1
    e20.2.2.2.1
    (HH.fn_x (st := sXi_8) (HH.says_fn c 50) e20.2.2.2.2.1 e20.2.2.2.2.2.1)
    e20.2.2.2.2.2.2.1
    (by first | rfl | decide +kernel)
    (HH.fs_l e20.2.2.2.2.2.2.2.1)
    e20.2.2.2.2.2.2.2.2.1
    (by first | rfl | decide +kernel)
    (HH.cell_l e20.2.2.2.2.2.2.2.2.2.1)
    (HH.ci_l e20.2.2.2.2.2.2.2.2.2.2.1)
    e20.2.2.2.2.2.2.2.2.2.2.2.1
    e20.2.2.2.2.2.2.2.2.2.2.2.2.1
    (HH.xc_l e20.2.2.2.2.2.2.2.2.2.2.2.2.2.1)
    e20.2.2.2.2.2.2.2.2.2.2.2.2.2.2.1
    e20.2.2.2.2.2.2.2.2.2.2.2.2.2.2.2.1
    e20.2.2.2.2.2.2.2.2.2.2.2.2.2.2.2.2.1
    e20.2.2.2.2.2.2.2.2.2.2.2.2.2.2.2.2.2.1
    e20.2.2.2.2.2.2.2.2.2.2.2.2.2.2.2.2.2.2.1
    (HH.fn_x (st := sXi_11) (HH.says_fn c 51) e20.2.2.2.2.2.2.2.2.2.2.2.2.2.2.2.2.2.2.2 e21.1)
    e21.2.1
    (by first | rfl | decide +kernel)
    (HH.fs_l e21.2.2.1)
    e21.2.2.2.1
    (by first | rfl | decide +kernel)
    (HH.cell_l e21.2.2.2.2.1)
    (HH.ci_l e21.2.2.2.2.2.1)
    e21.2.2.2.2.2.2.1
    e21.2.2.2.2.2.2.2.1
    (HH.xc_l e21.2.2.2.2.2.2.2.2.1)
    e21.2.2.2.2.2.2.2.2.2.1
    e21.2.2.2.2.2.2.2.2.2.2.1
    e21.2.2.2.2.2.2.2.2.2.2.2.1
    e21.2.2.2.2.2.2.2.2.2.2.2.2.1
    e21.2.2.2.2.2.2.2.2.2.2.2.2.2.1
    (HH.fn_x (st := sXi_12) (HH.says_fn c 52) e21.2.2.2.2.2.2.2.2.2.2.2.2.2.2.1 e21.2.2.2.2.2.2.2.2.2.2.2.2.2.2.2.1)
    e21.2.2.2.2.2.2.2.2.2.2.2.2.2.2.2.2.1
    (by first | rfl | decide +kernel)
    (HH.fs_l e21.2.2.2.2.2.2.2.2.2.2.2.2.2.2.2.2.2.1)
    e21.2.2.2.2.2.2.2.2.2.2.2.2.2.2.2.2.2.2.1
    (by first | rfl | decide +kernel)
    (HH.cell_l e21.2.2.2.2.2.2.2.2.2.2.2.2.2.2.2.2.2.2.2)
    (HH.ci_l e22.1)
    e22.2.1
    e22.2.2.1
    (HH.xc_l e22.2.2.2.1)
    e22.2.2.2.2.1
    e22.2.2.2.2.2.1
    e22.2.2.2.2.2.2.1
    e22.2.2.2.2.2.2.2.1
    e22.2.2.2.2.2.2.2.2.1
    (HH.fn_x (st := sXi_15) (HH.says_fn c 53) e22.2.2.2.2.2.2.2.2.2.1 e22.2.2.2.2.2.2.2.2.2.2.1)
    e22.2.2.2.2.2.2.2.2.2.2.2.1
    (by first | rfl | decide +kernel)
    (HH.fs_l e22.2.2.2.2.2.2.2.2.2.2.2.2.1)
    e22.2.2.2.2.2.2.2.2.2.2.2.2.2.1
    (by first | rfl | decide +kernel)
    (HH.cell_l e22.2.2.2.2.2.2.2.2.2.2.2.2.2.2.1)
    (HH.ci_l e22.2.2.2.2.2.2.2.2.2.2.2.2.2.2.2.1)
    e22.2.2.2.2.2.2.2.2.2.2.2.2.2.2.2.2.1
    e22.2.2.2.2.2.2.2.2.2.2.2.2.2.2.2.2.2.1
    e22.2.2.2.2.2.2.2.2.2.2.2.2.2.2.2.2.2.2.1
    (by first | rfl | decide +kernel)
    e22.2.2.2.2.2.2.2.2.2.2.2.2.2.2.2.2.2.2.2
    e23.1
    kd_D_B.at_
    kd_D_P.at_
    kd_D_B.lit
    kd_D_P.lit
    kd_D_P.low
    e23.2.1
    e23.2.2.1
    e23.2.2.2.1
    e23.2.2.2.2.1
    e23.2.2.2.2.2.1
    e23.2.2.2.2.2.2.1
    e23.2.2.2.2.2.2.2.1
    e23.2.2.2.2.2.2.2.2.1
    e23.2.2.2.2.2.2.2.2.2.1
    e23.2.2.2.2.2.2.2.2.2.2.1
    e23.2.2.2.2.2.2.2.2.2.2.2.1
    (HH.fn_d (st := sJInit) (HH.says_fn c 54) e23.2.2.2.2.2.2.2.2.2.2.2.2.1)
    e23.2.2.2.2.2.2.2.2.2.2.2.2.2.1
    e23.2.2.2.2.2.2.2.2.2.2.2.2.2.2.1
    (HH.sq_e e23.2.2.2.2.2.2.2.2.2.2.2.2.2.2.2.1 e23.2.2.2.2.2.2.2.2.2.2.2.2.2.2.2.2.1)
    e23.2.2.2.2.2.2.2.2.2.2.2.2.2.2.2.2.2.1
    e23.2.2.2.2.2.2.2.2.2.2.2.2.2.2.2.2.2.2.1
    e23.2.2.2.2.2.2.2.2.2.2.2.2.2.2.2.2.2.2.2
    e24.1
    e24.2.1
    e24.2.2.1
    e24.2.2.2.1
    (HH.fn_d (st := sBInit) (HH.says_fn c 55) e24.2.2.2.2.1)
    e24.2.2.2.2.2.1
    e24.2.2.2.2.2.2.1
    (HH.sq_e e24.2.2.2.2.2.2.2.1 e24.2.2.2.2.2.2.2.2.1)
    e24.2.2.2.2.2.2.2.2.2.1
    e24.2.2.2.2.2.2.2.2.2.2.1
    e24.2.2.2.2.2.2.2.2.2.2.2.1
    e24.2.2.2.2.2.2.2.2.2.2.2.2.1
    (HH.fn_l (st := sBRoom) (HH.says_fn c 56))
    e24.2.2.2.2.2.2.2.2.2.2.2.2.2.1
    e24.2.2.2.2.2.2.2.2.2.2.2.2.2.2.1
    e24.2.2.2.2.2.2.2.2.2.2.2.2.2.2.2.1
    e24.2.2.2.2.2.2.2.2.2.2.2.2.2.2.2.2.1
    e24.2.2.2.2.2.2.2.2.2.2.2.2.2.2.2.2.2.1
    e24.2.2.2.2.2.2.2.2.2.2.2.2.2.2.2.2.2.2.1
    e24.2.2.2.2.2.2.2.2.2.2.2.2.2.2.2.2.2.2.2
    e25.1
    e25.2.1
    e25.2.2
end W8
open PySem PySem.W PySem.Calls PyProof.Rows
theorem PySem.Challenge.cw_turtlestold_k87_whole_steps_taken_back_holds : PySem.Challenge.rw_turtlestold_k87_whole_steps_taken_back.Holds := by
  w_on; o_law
  refine HandSHeadRun.head_any (r := OpenLaw.row PySem.Challenge.rw_turtlestold_k87_whole_steps_taken_back) (q := view (OpenLaw.row PySem.Challenge.rw_turtlestold_k87_whole_steps_taken_back).prog [76]) (H := W8.hk) (ob := W8.obs) (M := 10000) (loose := W8.loose) (d := HandSHeadRun.topDef (OpenLaw.row PySem.Challenge.rw_turtlestold_k87_whole_steps_taken_back).prog 76) (kwd := []) W8.obs_eq
    (by kernel_rfl) (fun s => by kernel_rfl) W8.run (by kernel_rfl) (by kernel_rfl) (by kernel_rfl) (by rfl) (by first | assumption | decide +kernel) (by decide +kernel) ⟨rfl, rfl, rfl, rfl, rfl, by decide +kernel⟩ ?hw ?hc
  case hw => w_witness2
  case hc =>
    refine HH.walk_ofBE (l := PySem.Challenge.rw_turtlestold_k87_whole_steps_taken_back) (n := 63) (k := 15) (x := "script") (CX := L2.CX0) rfl (by decide) (by kernel_rfl) ⟨rfl, by decide, by decide⟩ ?F (fun _ _ _ _ z => z)
    intro w mg fa h Y G hmg0
    obtain ⟨K, KX, c⟩ := Y
    have hmg : mg ("law" : PySem.Str) = some (.ref fa) := by
      have e : (HandSHeadRun.topDef (OpenLaw.row PySem.Challenge.rw_turtlestold_k87_whole_steps_taken_back).prog 76).name = ("law" : PySem.Str) := by kernel_rfl
      rw [← e]
      exact hmg0
    obtain ⟨fd, hb, hF⟩ := W8.facts KX G hmg c
    exact ⟨K, fd, W8.spLaw K, KX, hb, fun H a ns hl hbt _ hS => ⟨a, ns, rfl, hS, hl, hbt, fun _ => rfl⟩, hF⟩

