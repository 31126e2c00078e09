import PyProof.Rows.All
import Wide.All
import OpenK.AllK
import Wide.FinOn
import PyProof.Draws
import PyProof.Rows.StrMul
import HandS.ForMost
import HandS.Strs
import HandS.SetFor
import HandS.EndBits
import HandS.TupLen
import HandS.Codes
import HandS.TupAny
import HandS.Walk
import PySem.Challenge.RW_turtlestold_k89_merged_books
import HandS.IsInst
import KE.KExcSuper
import HandS.ExcCtx
import HandS.ExcField
import HandS.TryMany
import HandS.HotCalls
import HandS.ExcIs
import HandS.Comp
import KE.KOpsOwn
import KE.KOwnIter
import HandS.ExcOwn
import HandS.IterVal
import HandS.Star
import HandS.MethStar
import HandS.CallSlots
import HandS.Conv
import PyProof.ListStr
import HandS.OwnEq
import HandS.DictSub
import HandS.OwnIter
import PyProof.CollectWalk
import HandS.WordsDict
import HandS.Property
import HandS.Defaults
import HandS.FStr
import HandS.Steps
import Wide.Once
import KE.KSuper
import KE.RegKSuper
import HandS.Exc
import HandS.Words
import HandS.HeadEnd
import HandS.HeadHook1
import HandS.HeadHook2
import HandS.HeadHook3
import HandS.Head0
import HandS.Head1
import HandS.Head2
set_option Elab.async false
set_option linter.all false
set_option maxRecDepth 100000
set_option maxHeartbeats 4000000
/-! Further rules: set(list of ints), a text again and again, enumerate(text), products of great ints. -/
namespace L2
open PySem PySem.Spec PyProof.Rows
abbrev so (w : World) : Obj := { cls := .type "set", dict := none, data := .set #[] 0 (.fresh 0 0 (!w.params.followText "set-order")) }
section
variable {P : Program} {w : World} {A : Around} {E : Value → Shared → Prop} {s : Shared}
set_option maxHeartbeats 8000000 in
theorem call_set_lstI {l : Addr} {items : Array Value} (ns : List Int) {Q : Value → Shared → Prop} (hh : A.handled = none) (hl : s.heap.IsList l items) (hit : IntsAre items.toList ns) (hb : ns.length + 1 < scanBound)
    (h : ∀ (h' : Heap) (tk c : Nat), SetR w h' s.heap.objs.size (fun j => decide (j ∈ ns)) c → c ≤ ns.length → (∀ b o, s.heap.get? b = some o → h'.get? b = some o) → Q (.ref s.heap.objs.size) { s with heap := h', toks := tk }) :
    wpAny (model P w) A (call (.type "set") [.ref l]) Q E s := by
  have hisz : items.size = ns.length := by
    have q := IntsAre.length hit
    rw [Array.length_toList] at q
    exact q
  obtain ⟨c, tl, hmro⟩ := F.called_set.mro
  have hmade := F.called_set.made
  have hsub := F.called_set.sub
  refine wpAny_call (codeAny_of_tree ?_)
  show wpAny _ _ (callAny (.type "set") _) _ _ _
  refine wpAny_pure ⟨Code.quiet_builtin _ (by decide +kernel), codeAny_builtin F.entry_type_call ?_⟩
  rw [Around.under_plain (weight_type_call_type "set" [.ref l] []) rfl]
  have h1 := F.called_set.notType
  have h2 := F.called_set.canCreate
  have hct := F.typeCall_set_1 (.ref l)
  repeat (any_goals (first | assumption | wp_step))

  refine codeAny_mono (code_set_led1 (.ref l) (E := E) (Q₁ := fun obj s₁ => obj = .ref s.heap.objs.size ∧ s₁ = { s with heap := s.heap.push (so w) }) ⟨rfl, rfl⟩) fun r s₁ hr => ?_
  cases r with
  | error e => exact hr
  | ok fl =>
    cases fl with
    | ret obj =>
      obtain ⟨rfl, rfl⟩ := hr
      have hS : (s.heap.push (so w)).get? s.heap.objs.size = some (so w) := Heap.get?_push_size _ rfl
      have hT : Shared.TypeIs { s with heap := s.heap.push (so w) } (.ref s.heap.objs.size) "set" := ⟨_, hS, rfl⟩
      have hli := F.called_set.init.lookup
      have hbi := F.called_set.init.bind (.ref s.heap.objs.size)
      repeat (any_goals (first | assumption | wp_step))

      refine codeAny_mono (codeAny_call_builtin (R := wants (fun r s₂ => r = .none ∧ ∃ h' tk c, s₂ = { s with heap := h', toks := tk } ∧ SetR w h' s.heap.objs.size (fun j => decide (j ∈ ns)) c ∧ c ≤ ns.length ∧
          (∀ b o, s.heap.get? b = some o → h'.get? b = some o)) E) F.called_set.init.plain F.entry_set_init (check_set_init_1 hT ?_)) fun r₂ s₂ hr₂ => ?_
      · obtain ⟨ol, hol, hcl, nl, hdl⟩ := hl
        obtain ⟨ocls, odict, odata, oslots⟩ := ol
        simp only at hcl hdl
        subst hcl; subst hdl
        have hol' : (s.heap.push (so w)).get? l = some { cls := .type "list", dict := odict, data := .seq items nl, slots := oslots } := Heap.get?_push_of_some _ hol
        have hsls := F.sub_list_set
        have hslf := F.sub_list_frozenset
        have hne : (Value.type "list" == Value.type "dict") = false := by decide
        have hl1 : (s.heap.push (so w)).IsList l items := ⟨_, hol', rfl, nl, rfl⟩
        unfold Builtin.«set.__init__» noKeywords Builtin.Frozenset.updateFrom
        generalize hPI : pyIter = PI
        wp_walk
        subst hPI

        refine wpAny_pyIter_list hl1 ?_
        refine wpAny_bind (wpAny_runValue ?_)
        have hlS : l < s.heap.objs.size := Heap.lt_size hol
        have hh3 : A.in1.in1.in1.handled = none := by simp [hh]
        have hz1 : (s.heap.push (so w)).objs.size = s.heap.objs.size + 1 := Heap.size_push ..
        have hneI : l ≠ (s.heap.push (so w)).objs.size := by
          rw [Heap.size_push]; exact Nat.ne_of_lt (Nat.lt_succ_of_lt hlS)
        have hSf : s.heap.objs.size ∉ [(s.heap.push (so w)).objs.size, l] := by
          rw [Heap.size_push]; simp only [List.mem_cons, List.mem_singleton, List.not_mem_nil, or_false, not_or]
          exact ⟨Nat.ne_of_lt (Nat.lt_succ_self _), Nat.ne_of_gt hlS⟩
        have hval : ∀ (i : Nat) (v : Value), items[i]? = some v → ∃ k t, ns[i]? = some k ∧ v = .int k t := fun i v hv => by
          have hi : i < ns.length := by rw [← hisz]; exact (Array.getElem?_eq_some_iff.mp hv).1
          obtain ⟨t, e⟩ := PyProof.Rows.IntsAre.int_at hit i v (by rw [Array.getElem?_toList]; exact hv)
          refine ⟨ns[i], t, List.getElem?_eq_getElem hi, ?_⟩
          rw [e, List.getD_eq_getElem?_getD, List.getElem?_eq_getElem hi] <;> rfl
        refine set_update_ints ((Walks.list hh3 _ l hneI items).toS) s.heap.objs.size
          hSf ns hisz hb hval (items.size - 0) 0 _ (by omega) (Nat.zero_le _)
          ⟨⟨_, Heap.get?_push_size _ rfl, rfl, rfl⟩, (hl1.push _)⟩ ?hS0 ?hR
        case hS0 =>
          have hget : ((s.heap.push (so w)).push { cls := .type "list_iterator", data := .fields #[.ref l, .int 0 0] }).get? s.heap.objs.size
              = some (so w) := Heap.get?_push_of_some _ hS
          exact ⟨0, Nat.le_refl 0, setR_new_at hget⟩
        case hR =>
          intro s' c' hm hc' hS'
          obtain ⟨h', g2, d', tk', os'⟩ := s'
          have eg : g2 = s.gens := hm.gens
          have ed : d' = s.drawn := hm.drawn
          have eo : os' = s.os := hm.os
          subst eg; subst ed; subst eo
          show wpAny _ _ _ _ _ _
          refine wpAny_pure ?_
          show wpAny _ _ (ret Value.none) _ _ _
          rw [hisz] at hc'
          refine wpAny_pure ⟨rfl, h', tk', c', rfl, hS', hc', fun b o e => ?_⟩
          have hb0 : b < s.heap.objs.size := Heap.lt_size e
          have hb1 : b ≠ s.heap.objs.size := Nat.ne_of_lt hb0
          have hb2 : b ≠ (s.heap.push (so w)).objs.size := by
            rw [Heap.size_push]; exact Nat.ne_of_lt (Nat.lt_succ_of_lt hb0)
          exact hm.heap b o (by simp only [List.mem_cons, List.mem_singleton, List.not_mem_nil, or_false, not_or]; exact ⟨hb1, hb2⟩) (Heap.get?_push_of_some _ (Heap.get?_push_of_some _ e))

      · cases r₂ with
        | error e => exact hr₂
        | ok fl₂ =>
          cases fl₂ with
          | ret r =>
            obtain ⟨rfl, h', tk, c', rfl, hS', hc', hk'⟩ := hr₂
            repeat (any_goals (first | assumption | wp_step))
            exact h _ _ _ hS' hc' hk'
          | _ => exact hr₂.elim
    | _ => exact hr.elim

end
section
variable {X : Cx}
/-- set(xs) of a list of ints -/
def rSetLI (K : PySem.W.Frag) (w : World) : List V → Hp → VK → Prop := fun xs H Q => ∃ (l : Addr) (ns : List Int), xs = [V.ref l] ∧ SqL K H l (ns.map V.int) ∧ ns.length ≤ 1000 ∧
  ∀ (a : Addr) (c : Nat), H a = none → c ≤ ns.length → Q (.ref a) (upd H a (SetO w a (fun j => decide (j ∈ ns)) c))
theorem cr_setL (hc : X.calm = true) : CallR X (.type "set") (rSetLI X.K X.w) := by
  intro pins s σ H xs us Q I r h
  obtain ⟨l, ns, rfl, hl, h1, q⟩ := h
  rw [Vals.ref1 r]
  obtain ⟨its, rv, p, hz⟩ := I.list hl
  refine call_set_lstI ns (I.ok.hd hc) (show s.heap.IsList l its.toArray from p.isList) (intsAre_of rv) (by unfold scanBound; omega) fun h' tk c R hcn k => ?_
  exact ⟨.ref _, upd H s.heap.objs.size (SetO X.w s.heap.objs.size (fun j => decide (j ∈ ns)) c), I.laid (t' := tk) k (Nat.le_refl _) (setO_new R), rfl, q _ c (I.hok.fresh (Nat.le_refl _)) hcn⟩
/-- a text so many times -/
def rMulS : R2 := fun x y H Q => ∃ (z : Str) (k : Int), x = .str z ∧ y = .int k ∧ z.length ≤ 1000 ∧ 0 ≤ k ∧ k ≤ 1000 ∧ Q (.str (Txt.mul z k)) H
theorem op_mulS : OpR X (binaryOp .Mult) rMulS := by
  intro pins s σ H x y v u Q I rx ry h
  obtain ⟨z, k, rfl, rfl, h1, h2, h3, q⟩ := h
  obtain ⟨t, rfl⟩ := rx
  obtain ⟨t2, rfl⟩ := ry
  exact SB.mul (mulOk_of 1000 1000 h1 (by omega) (by omega) (by decide) (by decide)) fun t' n => ⟨.str (Txt.mul z k), H, I.tok _, ⟨t', rfl⟩, q⟩
/-- a product whose factors are told by their bits -/
def CMulB (i j : Int) : Prop := Builtin.Int.intBits i ≤ 2097152 ∧ Builtin.Int.intBits j ≤ 64
theorem op_mulB : OpR X (binaryOp .Mult) (rI CMulB fun i j => .int (i * j)) := opI fun i j _ _ _ _ _ hc q => mul_int q (by
  obtain ⟨h1, h2⟩ := (show CMulB i j from hc)
  have e : bitsLine = 134217728 := by decide
  unfold IntMulOk
  intro z
  rw [Bool.and_eq_true] at z
  have z2 := z.2
  unfold Builtin.Int.intTooBig at z2
  have z3 := of_decide_eq_true z2
  rw [e] at z3
  omega)
end
/-! ### enumerate(text) -/
def Ites (x : Str) : It :=
  ⟨fun i _ => i < x.cps.size, fun i H v H' => ∃ T c, v = .ref T ∧ H T = none ∧ H' = upd H T (.tup [.int (i : Nat), .str ⟨#[c]⟩]) ∧ x.cps[i]? = some c, fun i _ => x.cps.size ≤ i⟩
theorem turn_enumS {P : Program} {w : World} {K : PySem.W.Frag} {elts : List Expr} {kk : Nat} {tpos : Pos} (x : Str) (t : Tok) (e it : Addr) (hne : e ≠ it) :
    Turn P w K (.Tuple elts kk tpos) (Ites x) [e, it] e (fun i h => (∃ old, IsEnum h e it ((i : Nat) : Int) old) ∧ i ≤ x.cps.size ∧ h.IsStrIter it (strIterType x) x t i) where
  mem := by simp
  obj := fun i h st b hb => by
    obtain ⟨⟨old, he⟩, _, ⟨o, ho, hc, hd⟩⟩ := st
    have e' : b = e ∨ b = it := by simpa using hb
    rcases e' with z | z
    · rw [z]; exact ⟨_, he, fun v q => nomatch q⟩
    · rw [z]; exact ⟨o, ho, fun v q => by rw [hd] at q; cases q⟩
  keep := fun i h h' st k => let ⟨⟨old, he⟩, hi, ⟨o, ho, r⟩⟩ := st; ⟨⟨old, k e (by simp) _ he⟩, hi, ⟨o, k it (by simp) _ ho, r⟩⟩
  item := by
    intro X hP hw hK hc i pins s σ H E I hf st hg
    subst hP hw hK
    obtain ⟨⟨old, he⟩, hi, hit⟩ := st
    have hel : e < s.heap.objs.size := Heap.lt_size he
    have hil : it < s.heap.objs.size := by obtain ⟨_, q, _⟩ := hit; exact Heap.lt_size q
    have hh : X.A.in1.handled = none := by have q := I.ok.hd hc; simpa using q
    have D : Draws X.prog X.w X.A.in1 it [it] x.cps.size (SignAt x) (fun i h => h.IsStrIter it (strIterType x) x t i) := by
      unfold strIterType
      cases x.cps.all (· < 128)
      · exact Draws.strWide hh it x t
      · exact Draws.strAscii hh it x t
    refine wpAny_pyNext_enum_itemD D he hit hg hne (by simpa using hne) fun u h' tk hu ho hit' hT hsz hk => ?_
    obtain ⟨c, u2, hcx, rfl⟩ := hu
    refine ⟨_, rfl, wpAny_letOwnedTupleGo_enum (s := { s with heap := h', toks := tk + 1 }) ho fun h'' he' sb => ?_⟩
    have hT2 := (sb.2 _ (Nat.ne_of_gt hel)).trans hT
    have new : ObjOk X.prog X.w (upd H s.heap.objs.size (.tup [.int (i : Nat), .str ⟨#[c]⟩])) h'' s.heap.objs.size (.tup [.int (i : Nat), .str ⟨#[c]⟩]) :=
      ⟨by show 2 ≤ sizeLine; decide, [.int i tk, .str ⟨#[c]⟩ u2], .cons ⟨_, rfl⟩ (.cons ⟨_, rfl⟩ .nil), ⟨_, hT2, rfl, _, rfl⟩⟩
    have I1 : Inv X pins σ (upd H s.heap.objs.size (.tup [.int (i : Nat), .str ⟨#[c]⟩])) { s with heap := h'', toks := tk + 1 } :=
      I.turnedNew (ch := [e, it]) (fun b ob hb q => (sb.2 b (fun z => hb (by simp [z]))).trans (hk b ob (fun z => hb (by simp [z])) (fun z => hb (by simp [z])) q)) hf (Nat.le_refl _) new
    refine ⟨.ref s.heap.objs.size, _, I1, rfl, ⟨_, c, rfl, I.hok.fresh (Nat.le_refl _), rfl, hcx⟩, ⟨⟨.str ⟨#[c]⟩ u2, ?_⟩, hg, ?_⟩, fun b hb => ?_⟩
    · have e1 : ((i + 1 : Nat) : Int) = (i : Int) + 1 := by omega
      rw [e1]; exact he'
    · obtain ⟨o, ho2, r⟩ := hit'
      exact ⟨o, (sb.2 it (Ne.symm hne)).trans ho2, r⟩
    · have hb' : b < s.heap.objs.size := by
        have e' : b = e ∨ b = it := by simpa using hb
        rcases e' with z | z
        · rw [z]; exact hel
        · rw [z]; exact hil
      rw [upd_ne (Nat.ne_of_lt hb')]
      exact (hf b hb).1
  done := by
    intro X hP hw hK hc i pins s σ H E I hf st hg
    subst hP hw hK
    obtain ⟨⟨old, he⟩, hi, hit⟩ := st
    have hh : X.A.in1.handled = none := by have q := I.ok.hd hc; simpa using q
    have D : Draws X.prog X.w X.A.in1 it [it] x.cps.size (SignAt x) (fun i h => h.IsStrIter it (strIterType x) x t i) := by
      unfold strIterType
      cases x.cps.all (· < 128)
      · exact Draws.strWide hh it x t
      · exact Draws.strAscii hh it x t
    obtain ⟨f0, f1, f2, f3, f4, f5⟩ := hf it (by simp)
    have ei : i = x.cps.size := Nat.le_antisymm hi hg
    subst ei
    exact wpAny_pyNext_enum_endD D he hit fun h' eb => ⟨rfl, I.turned (t' := s.toks) (fun b o hb q => eb b o hb q) f0 f1 f3 f4 f5⟩
  self := fun A i s Q E st h => let ⟨⟨_, he⟩, _⟩ := st; wpAny_pyIter_enum he h
def iEnumS (ta : TA) : TI := fun σ H R => ta σ H fun vs H1 => ∃ x, vs = [.str x] ∧ R (Ites x) H1
theorem pi_enumS {X : Cx} {e : Expr} {ta : TA} {p pos tpos : Pos} {elts : List Expr} {kk : Nat} (hg : Gl X "enumerate") (hm : X.mg "enumerate" = none) (ha : PA X [e] ta) (hs : starEach [e] X.env = [(false, eval e X.env)] := by rfl) :
    PI X (.Tuple elts kk tpos) (.Call (.Name "enumerate" p) [e] [] pos) (iEnumS ta) := by
  refine ⟨fun pins s σ H R I h => ?_⟩
  refine Call_ (ld_blt I hg hm boot_enumerate (PyProof.Rows.callWith_type1 (thn (ha.run pos pins s σ H _ I h) fun us s1 ⟨vs, H1, I1, r1, q1⟩ => ?_) hs rfl))
  obtain ⟨x, ex, q⟩ := q1
  subst ex
  cases r1 with
  | cons r rr =>
    cases rr
    obtain ⟨t, rfl⟩ := r
    refine call_enumerate_str fun h' he hit hsz hk => wpAny_pyIter_enum he ?_
    have I2 : Inv X pins σ H1 { s1 with heap := h' } := I1.kept (t' := s1.toks) hk
    refine ⟨s1.heap.objs.size + 1, [s1.heap.objs.size + 1, s1.heap.objs.size], _, _, H1, rfl, I2, turn_enumS x t (s1.heap.objs.size + 1) s1.heap.objs.size (Nat.succ_ne_self _), ⟨⟨.none, he⟩, Nat.zero_le _, hit⟩, fun b hb => ?_, q⟩
    have e' : b = s1.heap.objs.size + 1 ∨ b = s1.heap.objs.size := by simpa using hb
    have hle : s1.heap.objs.size ≤ b := by
      rcases e' with z | z
      · rw [z]; exact Nat.le_add_right _ _
      · rw [z]; exact Nat.le_refl _
    exact I1.fpOk hle (I1.hok.fresh hle)
end L2

set_option Elab.async false
set_option linter.all false
set_option maxRecDepth 100000
set_option maxHeartbeats 4000000
/-! Dicts whose keys are tuples of ints, texts, and tuples of ints and texts. -/
namespace NK
open PySem PySem.Spec PyProof.Rows L2

abbrev Itm := Sum Key (List Key)
section
variable (P : Program) (w : World)
def itmIs (h : Heap) : Itm → Value → Prop
  | .inl k, v => keyIs k v = true
  | .inr ks, v => ∃ a, v = .ref a ∧ IsTupleKey (mixKind P w) h ks a
def IsN (h : Heap) (ks : List Itm) (a : Addr) : Prop := ∃ o items n, h.get? a = some o ∧ o.cls = .type "tuple" ∧ o.data = .seq items n ∧ Paired (itmIs P w h) ks items.toList
def itmH : Itm → Int
  | .inl k => keyH w k
  | .inr ks => tupleKeyHash (mixKind P w) ks
def itmD : Itm → Nat
  | .inl _ => 1
  | .inr ks => ks.length + 1
def nkD : List Itm → Nat
  | [] => 1
  | i :: r => itmD i + nkD r
def nkH (ks : List Itm) : Int := reduceHash (Builtin.Tuple.tupleHashOf (ks.map (itmH P w)))
end

section
variable {P : Program} {w : World} {h : Heap}
theorem itm_inj {x y : Itm} {v : Value} (hx : itmIs P w h x v) (hy : itmIs P w h y v) : x = y := by
  cases x with
  | inl k =>
    cases y with
    | inl j => rw [(mixKind P w).inj v k j hx hy]
    | inr js =>
      obtain ⟨a, rfl, _⟩ := hy
      rcases keyIs_shape hx with ⟨i, t, _, e⟩ | ⟨z, t, _, e⟩ <;> cases e
  | inr ks =>
    obtain ⟨a, rfl, ha⟩ := hx
    cases y with
    | inl j => rcases keyIs_shape hy with ⟨i, t, _, e⟩ | ⟨z, t, _, e⟩ <;> cases e
    | inr js =>
      obtain ⟨b, e, hb⟩ := hy
      cases e
      rw [ha.inj hb]
theorem itms_inj {vs : List Value} : ∀ {x y : List Itm}, Paired (itmIs P w h) x vs → Paired (itmIs P w h) y vs → x = y := by
  induction vs with
  | nil => intro x y hx hy; cases hx; cases hy; rfl
  | cons v vs ih =>
    intro x y hx hy
    cases hx with
    | cons h1 t1 =>
      cases hy with
      | cons h2 t2 => rw [itm_inj h1 h2, ih t1 t2]
theorem IsN.inj {x y : List Itm} {a : Addr} (hx : IsN P w h x a) (hy : IsN P w h y a) : x = y := by
  obtain ⟨o, items, n, ho, _, hd, hi⟩ := hx
  obtain ⟨o', items', n', ho', _, hd', hi'⟩ := hy
  obtain rfl : o = o' := Option.some.inj (ho.symm.trans ho')
  rw [hd] at hd'
  injection hd' with h1 _
  subst h1
  exact itms_inj hi hi'
theorem IsN.typeIs {s : Shared} {ks : List Itm} {a : Addr} (x : IsN P w s.heap ks a) : s.TypeIs (.ref a) "tuple" := let ⟨o, _, _, ho, hc, _⟩ := x; ⟨o, ho, hc⟩
theorem itm_keeps {h' : Heap} {d : Addr} {o : Obj} {es ep} (ho : h.get? d = some o) (hd : o.data = .dict es ep) (hs : Heap.SameBut d h h') : ∀ {k : Itm} {v : Value}, itmIs P w h k v → itmIs P w h' k v
  | .inl _, _, x => x
  | .inr _, _, ⟨a, e, x⟩ => ⟨a, e, x.keeps ho hd hs⟩
theorem IsN.keeps {h' : Heap} {ks : List Itm} {a d : Addr} {o : Obj} {es ep} (x : IsN P w h ks a) (ho : h.get? d = some o) (hd : o.data = .dict es ep) (hs : Heap.SameBut d h h') : IsN P w h' ks a := by
  obtain ⟨o', items, n, ho', hc, hd', hi⟩ := x
  have hne : a ≠ d := by
    rintro rfl
    obtain rfl : o' = o := Option.some.inj (ho'.symm.trans ho)
    rw [hd] at hd'; exact nomatch hd'
  exact ⟨o', items, n, (hs.2 a hne).trans ho', hc, hd', Paired.mapP hi fun _ _ z => itm_keeps ho hd hs z⟩
end

section
variable {P : Program} {w : World} {A : Around} {E : Value → Shared → Prop} {s : Shared}
theorem itm_hash {k : Itm} {v : Value} {Q : Int → Shared → Prop} (hu : A.units + 1 < cLine) (hk : itmIs P w s.heap k v) (h : Q (itmH P w k) { s with toks := s.toks + itmD k }) :
    wpAny (model P w) A (pyHash v) Q E s := by
  cases k with
  | inl k => exact (mixKind P w).pyHash hk h
  | inr ks =>
    obtain ⟨a, rfl, ha⟩ := hk
    exact wpAny_pyHash_tuple (by omega) ha h
theorem isTuple_of {ks : List Key} {a : Addr} (x : IsTupleKey (mixKind P w) s.heap ks a) : ∃ items, s.heap.IsTuple a items := by
  obtain ⟨o, items, n, ho, hc, hd, _⟩ := x
  exact ⟨items, o, ho, hc, n, hd⟩
theorem itm_eq {x y : Itm} {u v : Value} {Q : Bool → Shared → Prop} (hu : A.units + 1 < cLine) (hx : itmIs P w s.heap x u) (hy : itmIs P w s.heap y v) (h : Q (decide (x = y)) s) :
    wpAny (model P w) A (eqBool u v) Q E s := by
  cases x with
  | inl k =>
    cases y with
    | inl j =>
      refine (mixKind P w).eqBool (a := k) (b := j) hx hy ?_
      have e : decide ((Sum.inl k : Itm) = Sum.inl j) = decide (k = j) := by
        by_cases e : k = j
        · subst e; rw [decide_eq_true rfl, decide_eq_true rfl]
        · rw [decide_eq_false e, decide_eq_false (fun z => e (Sum.inl.inj z))]
      rw [← e]; exact h
    | inr js =>
      obtain ⟨a, rfl, ha⟩ := hy
      obtain ⟨items, hi⟩ := isTuple_of ha
      have e : decide ((Sum.inl k : Itm) = Sum.inr js) = false := decide_eq_false (fun q => nomatch q)
      rw [e] at h
      rcases keyIs_shape hx with ⟨i, t, _, rfl⟩ | ⟨z, t, _, rfl⟩
      · exact SeqAt.EqAt.int_tuple i t hi (by omega) P w E Q h
      · exact SeqAt.EqAt.str_tuple z t hi (by omega) P w E Q h
  | inr ks =>
    obtain ⟨a, rfl, ha⟩ := hx
    cases y with
    | inl j =>
      obtain ⟨items, hi⟩ := isTuple_of ha
      have e : decide ((Sum.inr ks : Itm) = Sum.inl j) = false := decide_eq_false (fun q => nomatch q)
      rw [e] at h
      rcases keyIs_shape hy with ⟨i, t, _, rfl⟩ | ⟨z, t, _, rfl⟩
      · exact SeqAt.EqAt.tuple_int i t hi (by omega) P w E Q h
      · exact SeqAt.EqAt.tuple_str z t hi (by omega) P w E Q h
    | inr js =>
      obtain ⟨b, rfl, hb⟩ := hy
      refine wpAny_eqBool_tuple (by omega) ha hb ?_
      have e : decide ((Sum.inr ks : Itm) = Sum.inr js) = decide (ks = js) := by
        by_cases e : ks = js
        · subst e; rw [decide_eq_true rfl, decide_eq_true rfl]
        · rw [decide_eq_false e, decide_eq_false (fun z => e (Sum.inr.inj z))]
      rw [← e]; exact h
theorem itm_quiet {k : Itm} {v : Value} {n : Nat} {Q : Bool → Shared → Prop} (hk : itmIs P w s.heap k v) (h : Q true s) : wpAny (model P w) A (eqIsQuiet (n + 1) v) Q E s := by
  cases k with
  | inl k =>
    rw [eqIsQuiet_byValue _ ((mixKind P w).byValue k v hk)]
    exact wpAny_pure h
  | inr ks =>
    obtain ⟨a, rfl, hk⟩ := hk
    have hT := hk.typeIs
    obtain ⟨o, items, m, ho, _, hd, hi⟩ := hk
    unfold eqIsQuiet
    refine wpAny_bind (wpAny_specialOf hT F.slot_tuple_eq.lookup ?_)
    show wpAny _ _ (isInstance (.ref a) (.type "tuple") >>= _) _ _ s
    refine wpAny_bind (wpAny_isInstance hT isSubtype_tuple_tuple ?_)
    simp only [Bool.not_true, Bool.false_eq_true, if_false]
    refine wpAny_bind (wpAny_seqItems ho hd ?_)
    refine wpAny_bind ?_
    show wpAny _ _ (forIn items _ _) _ _ s
    rw [← Array.forIn_toList]
    refine wpAny_forIn_list _ (fun rest r s' => r.1 = none ∧ s' = s ∧ ∀ v ∈ rest, carriedByValue v = true) _ ?_ ?_ _ _ ⟨rfl, rfl, hi.byValue⟩
    · rintro v rest r s' ⟨hr, rfl, hall⟩
      rw [eqIsQuiet_byValue _ (hall v List.mem_cons_self)]
      refine wpAny_bind (wpAny_pure ?_)
      simp only [Bool.not_true, Bool.false_eq_true, if_false]
      exact wpAny_pure ⟨rfl, rfl, fun u hu' => hall u (List.mem_cons_of_mem _ hu')⟩
    · rintro ⟨r1, r2⟩ s' ⟨hr, rfl, _⟩
      simp only at hr
      subst hr
      exact wpAny_pure h
theorem nk_quiet {ks : List Itm} {a : Addr} {Q : Bool → Shared → Prop} (hk : IsN P w s.heap ks a) (h : Q true s) : wpAny (model P w) A (eqIsQuiet 8 (.ref a)) Q E s := by
  have hT := hk.typeIs
  obtain ⟨o, items, m, ho, _, hd, hi⟩ := hk
  unfold eqIsQuiet
  refine wpAny_bind (wpAny_specialOf hT F.slot_tuple_eq.lookup ?_)
  show wpAny _ _ (isInstance (.ref a) (.type "tuple") >>= _) _ _ s
  refine wpAny_bind (wpAny_isInstance hT isSubtype_tuple_tuple ?_)
  simp only [Bool.not_true, Bool.false_eq_true, if_false]
  refine wpAny_bind (wpAny_seqItems ho hd ?_)
  refine wpAny_bind ?_
  show wpAny _ _ (forIn items _ _) _ _ s
  rw [← Array.forIn_toList]
  refine wpAny_forIn_list _ (fun rest r s' => r.1 = none ∧ s' = s ∧ ∃ left, Paired (itmIs P w s.heap) left rest) _ ?_ ?_ _ _ ⟨rfl, rfl, ks, hi⟩
  · rintro v rest r s' ⟨hr, rfl, left, hl⟩
    cases hl with
    | cons h1 t1 =>
      refine wpAny_bind (itm_quiet h1 ?_)
      simp only [Bool.not_true, Bool.false_eq_true, if_false]
      exact wpAny_pure ⟨rfl, rfl, _, t1⟩
  · rintro ⟨r1, r2⟩ s' ⟨hr, rfl, _⟩
    simp only at hr
    subst hr
    exact wpAny_pure h
theorem nkD_snoc (k : Itm) : ∀ ks : List Itm, nkD (ks ++ [k]) = nkD ks + itmD k
  | [] => by show itmD k + 1 = 1 + itmD k; omega
  | i :: r => by show itmD i + nkD (r ++ [k]) = itmD i + nkD r + itmD k; rw [nkD_snoc k r]; omega
theorem nk_hash {ks : List Itm} {a : Addr} {Q : Int → Shared → Prop} (hu : A.units + 8 < cLine) (hk : IsN P w s.heap ks a) (h : Q (nkH P w ks) { s with toks := s.toks + nkD ks }) :
    wpAny (model P w) A (pyHash (.ref a)) Q E s := by
  have hT := hk.typeIs
  obtain ⟨o, items, n, ho, _, hd, hi⟩ := hk
  unfold pyHash
  first | unfold pyHashByItsType | skip
  first | refine wpAny_bind (wpAny_cRoomFor_or (.inr (by omega)) ?_) | skip
  refine wpAny_bind (wpAny_specialOf hT F.slot_tuple_hash.lookup ?_)
  show wpAny _ _ (if (some (Value.builtin "tuple.__hash__") == some Value.none) = true then _ else _) Q E s
  rw [if_neg (by rw [beq_builtin_none]; exact Bool.false_ne_true)]
  refine wpAny_bind (wpAny_specialOf hT F.slot_tuple_hash.lookup ?_)
  show wpAny _ _ (callSpecialIfBoundUnlessNone? (.ref a) "__hash__" _ >>= _) Q E s
  refine wpAny_bind (wpAny_callSpecialIfBoundUnlessNone?_slot hT F.slot_tuple_hash (wpAny_call_entry F.slot_tuple_hash hT F.entry_tuple_hash ?_ (F.args_tuple_hash_1 _)))
  show wpAny _ _ (Builtin.Tuple.tupleItemsOf (.ref a) >>= _) _ _ s
  refine wpAny_bind (wpAny_tupleItemsOf ho hd ?_)
  refine wpAny_bind ?_
  rw [← Array.forIn_toList]
  refine wpAny_forIn_list _
    (fun rest (b : Array Int) s' => ∃ done left, ks = done ++ left ∧ Paired (itmIs P w s.heap) left rest ∧ b.toList = done.map (itmH P w) ∧ s' = { s with toks := s.toks + (nkD done - 1) })
    _ ?_ ?_ _ _ ⟨[], ks, rfl, hi, rfl, rfl⟩
  · rintro x rest b s' ⟨done, left, rfl, hl, hb, rfl⟩
    cases hl with
    | @cons k _ ks' _ h1 hl' =>
      have e : s.toks + (nkD done - 1) + itmD k = s.toks + (nkD (done ++ [k]) - 1) := by
        rw [nkD_snoc]
        have : 1 ≤ nkD done := by
          cases done with
          | nil => exact Nat.le_refl _
          | cons i r => show 1 ≤ itmD i + nkD r; cases i <;> (dsimp only [itmD]; omega)
        omega
      refine wpAny_bind (itm_hash (k := k) (by show A.units + 1 + 1 < cLine; omega) h1 ?_)
      first
        | exact wpAny_pure ⟨done ++ [k], ks', by simp, hl', by simp [hb], by rw [← e]⟩
        | exact wpAny_bind (wpAny_pure (wpAny_pure ⟨done ++ [k], ks', by simp, hl', by simp [hb], by rw [← e]⟩))
  · rintro b s' ⟨done, left, rfl, hl, hb, rfl⟩
    cases hl
    rw [List.append_nil] at h
    show wpAny _ _ (retInt (Builtin.Tuple.tupleHashOf b.toList)) _ _ _
    rw [hb]
    refine wpAny_ret_mkInt ?_
    have e : s.toks + (nkD done - 1) + 1 = s.toks + nkD done := by
      have : 1 ≤ nkD done := by
        cases done with
        | nil => exact Nat.le_refl _
        | cons i r => show 1 ≤ itmD i + nkD r; cases i <;> (dsimp only [itmD]; omega)
      omega
    show wpAny _ _ (if (decide (-(2 : Int) ^ 63 ≤ Builtin.Tuple.tupleHashOf (done.map (itmH P w))) && decide (Builtin.Tuple.tupleHashOf (done.map (itmH P w)) < 2 ^ 63)) = true then _ else _) Q E _
    unfold nkH reduceHash at h
    by_cases hr : (decide (-(2 : Int) ^ 63 ≤ Builtin.Tuple.tupleHashOf (done.map (itmH P w))) && decide (Builtin.Tuple.tupleHashOf (done.map (itmH P w)) < 2 ^ 63)) = true
    · rw [if_pos hr]
      rw [if_pos hr] at h
      exact wpAny_pure (by rw [← e] at h; exact h)
    · rw [if_neg hr]
      rw [if_neg hr] at h
      exact wpAny_bind (wpAny_rule (wpAny_pure (by rw [← e] at h; exact h)))
theorem nk_eq_tree {x y : List Itm} {a b : Addr} {Pf : Fin → Shared → Prop} (hu : A.units + 1 < cLine) (hx : IsN P w s.heap x a) (hy : IsN P w s.heap y b) (h : Pf (.done (.ret (.bool (decide (x = y))))) s) :
    wpAny (model P w) A (Builtin.«tuple.__eq__» ⟨[.ref a, .ref b], []⟩) Pf E s := by
  have hTb := hy.typeIs
  obtain ⟨oa, xs, na, hoa, _, hda, hia⟩ := hx
  obtain ⟨ob, ys, nb, hob, _, hdb, hib⟩ := hy
  show wpAny _ _ (isInstance (.ref b) (.type "tuple") >>= _) _ _ s
  refine wpAny_bind (wpAny_isInstance hTb isSubtype_tuple_tuple ?_)
  simp only [Bool.not_true, Bool.false_eq_true, if_false]
  refine wpAny_bind (wpAny_tupleItemsOf hoa hda ?_)
  refine wpAny_bind (wpAny_tupleItemsOf hob hdb ?_)
  refine wpAny_bind ?_
  refine wpAny_forIn_list _
    (fun rest r s' => r.1 = none ∧ s' = s ∧ ∃ x' y' xs' ys', rest = List.zip xs' ys' ∧ Paired (itmIs P w s.heap) x' xs' ∧ Paired (itmIs P w s.heap) y' ys' ∧ decide (x' = y') = decide (x = y) ∧ (xs'.length == ys'.length) = (xs.size == ys.size))
    _ ?_ ?_ _ _ ⟨rfl, rfl, x, y, xs.toList, ys.toList, rfl, hia, hib, rfl, by simp⟩
  · rintro ⟨u, v⟩ rest r s' ⟨hr, rfl, x', y', xs', ys', hz, hx', hy', hdec, hlen⟩
    cases hx' with
    | nil => simp at hz
    | @cons k1 u' x'' xs'' h1 hx'' =>
      cases hy' with
      | nil => simp at hz
      | @cons k2 v' y'' ys'' h2 hy'' =>
        simp only [List.zip_cons_cons, List.cons.injEq, Prod.mk.injEq] at hz
        obtain ⟨⟨rfl, rfl⟩, rfl⟩ := hz
        refine wpAny_bind (itm_eq (x := k1) (y := k2) hu h1 h2 ?_)
        by_cases hk : k1 = k2
        · subst hk
          rw [decide_eq_true rfl]
          simp only [Bool.not_true, Bool.false_eq_true, if_false]
          refine wpAny_pure ⟨rfl, rfl, x'', y'', xs'', ys'', rfl, hx'', hy'', ?_, by simpa using hlen⟩
          rw [← hdec]
          by_cases hxy : x'' = y''
          · simp [hxy]
          · simp [hxy]
        · rw [decide_eq_false hk]
          simp only [Bool.not_false, if_true]
          have hf : decide (x = y) = false := by rw [← hdec]; simp [hk]
          rw [hf] at h
          exact wpAny_bind (wpAny_pure (wpAny_pure (wpAny_pure h)))
  · rintro ⟨r1, r2⟩ s' ⟨hr, rfl, x', y', xs', ys', hz, hx', hy', hdec, hlen⟩
    simp only at hr
    subst hr
    refine wpAny_pure ?_
    have hfin : (xs.size == ys.size) = decide (x = y) := by
      rw [← hdec, ← hlen]
      cases hx' with
      | nil =>
        cases hy' with
        | nil => simp
        | cons _ _ => simp
      | cons _ _ =>
        cases hy' with
        | nil => simp
        | cons _ _ => simp at hz
    show Pf (.done (.ret (.bool (xs.size == ys.size)))) s'
    rw [hfin]; exact h
theorem nk_eq {x y : List Itm} {a b : Addr} {Q : Bool → Shared → Prop} (hu : A.units + 8 < cLine) (hx : IsN P w s.heap x a) (hy : IsN P w s.heap y b) (h : Q (decide (x = y)) s) :
    wpAny (model P w) A (eqBool (.ref a) (.ref b)) Q E s := by
  unfold eqBool
  try with_reducible refine wpAny_holding ?_
  show wpAny _ _ (if (Value.ref a == Value.ref b) = true then _ else _) Q E s
  by_cases hab : (Value.ref a == Value.ref b) = true
  · rw [if_pos hab]
    have e : a = b := by have := eq_of_beq hab; injection this
    subst e
    obtain rfl := hx.inj hy
    exact wpAny_bind (wpAny_rule (wpAny_pure (by simpa using h)))
  · rw [if_neg hab]
    exact wpAny_bind (wpAny_richCompare_same_room (op := .Eq) hx.typeIs hy.typeIs F.slot_tuple_eq
      (wpAny_call_entry F.slot_tuple_eq hx.typeIs F.entry_tuple_eq (nk_eq_tree (by show A.units + 1 + 1 < cLine; omega) hx hy ⟨_, rfl, (fun e => nomatch e), wpAny_truthy_bool h⟩) (F.args_tuple_eq_2 _ _)) (by omega))
end
def nkKind (P : Program) (w : World) : HeapKind P w (List Itm) where
  is := IsN P w
  hash := nkH P w
  draws := nkD
  room := fun A => A.units + 8 < cLine
  inj := fun hx hy => hx.inj hy
  keeps := fun x ho hd hs => x.keeps ho hd hs
  pyHash := fun hu hk h => nk_hash hu hk h
  eqBool := fun hu hx hy h => nk_eq hu hx hy h
  quiet := fun hk h => nk_quiet hk h
end NK

set_option Elab.async false
set_option linter.all false
set_option maxRecDepth 100000
set_option maxHeartbeats 4000000
namespace NK
open PySem PySem.Spec PyProof.Rows L2

abbrev KVs := List (List Itm × Addr × V)
def RelT : KVs → List (List Itm × Addr × Value) → Prop := Paired fun p q => p.1 = q.1 ∧ p.2.1 = q.2.1 ∧ RelV p.2.2 q.2.2
/-- a dict with such keys, by its one object -/
def ndP (P : Program) (w : World) (a : Addr) (kvs : KVs) (h : Heap) : Prop :=
  kvs.length ≤ sizeLine ∧ (a == sysModules) = false ∧ ∃ xs, RelT kvs xs ∧ ∃ o es ep, h.get? a = some o ∧ o.ExactDict ∧ o.data = .dict es ep ∧ es.toList = xs.map (entryOfKey (nkKind P w)) ∧ (xs.map (·.1)).Nodup
def ND (P : Program) (w : World) (a : Addr) (kvs : KVs) : HO := .ext (ndP P w a kvs)
def ItmAt (H : Hp) : Itm → V → Prop
  | .inl k, v => v = kV k
  | .inr ks, v => ∃ b, v = .ref b ∧ H b = some (.tup (ks.map kV))
/-- the tuple at b is the key k -/
def KeyAt (H : Hp) (k : List Itm) (b : Addr) : Prop := ∃ vs, H b = some (.tup vs) ∧ Paired (ItmAt H) k vs
def Keyed (H : Hp) (kvs : KVs) : Prop := ∀ p ∈ kvs, KeyAt H p.1 p.2.1
def valN (kvs : KVs) (k : List Itm) : Option V := (kvs.find? fun p => decide (p.1 = k)).map (·.2.2)
def putN (kvs : KVs) (k : List Itm) (b : Addr) (v : V) : KVs := if (valN kvs k).isSome then kvs.map (fun p => if p.1 = k then (p.1, p.2.1, v) else p) else kvs ++ [(k, b, v)]

theorem ItmAt.mono {H H' : Hp} (s : Same H H') {i : Itm} {v : V} (h : ItmAt H i v) : ItmAt H' i v := by
  cases i with
  | inl k => exact h
  | inr ks => obtain ⟨b, e, hb⟩ := h; exact ⟨b, e, s _ _ hb⟩
theorem KeyAt.mono {H H' : Hp} (s : Same H H') {k : List Itm} {b : Addr} (h : KeyAt H k b) : KeyAt H' k b := by
  obtain ⟨vs, h1, h2⟩ := h
  exact ⟨vs, s _ _ h1, Paired.mapP h2 fun _ _ z => ItmAt.mono s z⟩
/-- but for one object that is no tuple -/
theorem ItmAt.but {H H' : Hp} {a : Addr} (ha : ∀ vs, H a ≠ some (.tup vs)) (s : ∀ b o, b ≠ a → H b = some o → H' b = some o) {i : Itm} {v : V} (h : ItmAt H i v) : ItmAt H' i v := by
  cases i with
  | inl k => exact h
  | inr ks => obtain ⟨b, e, hb⟩ := h; exact ⟨b, e, s _ _ (fun z => ha _ (z ▸ hb)) hb⟩
theorem KeyAt.but {H H' : Hp} {a : Addr} (ha : ∀ vs, H a ≠ some (.tup vs)) (s : ∀ b o, b ≠ a → H b = some o → H' b = some o) {k : List Itm} {b : Addr} (h : KeyAt H k b) : KeyAt H' k b := by
  obtain ⟨vs, h1, h2⟩ := h
  exact ⟨vs, s _ _ (fun z => ha _ (z ▸ h1)) h1, Paired.mapP h2 fun _ _ z => ItmAt.but ha s z⟩
theorem Keyed.but {H H' : Hp} {a : Addr} (ha : ∀ vs, H a ≠ some (.tup vs)) (s : ∀ b o, b ≠ a → H b = some o → H' b = some o) {kvs : KVs} (h : Keyed H kvs) : Keyed H' kvs := fun p hp => (h p hp).but ha s
theorem Keyed.mono {H H' : Hp} (s : Same H H') {kvs : KVs} (h : Keyed H kvs) : Keyed H' kvs := fun p hp => (h p hp).mono s

section
variable {P : Program} {w : World} {H : Hp} {h : Heap} {a b : Addr} {kvs : KVs} {k : List Itm}
theorem itm_of (ok : HOk P w H h) {i : Itm} {v : V} {u : Value} (hi : ItmAt H i v) (r : RelV v u) : itmIs P w h i u := by
  cases i with
  | inl k => cases hi; exact kV_is (P := P) (w := w) r
  | inr ks =>
    obtain ⟨b, rfl, hb⟩ := hi
    cases r
    exact ⟨b, rfl, key_of ok hb⟩
theorem itms_of (ok : HOk P w H h) {is : List Itm} {vs : List V} (hi : Paired (ItmAt H) is vs) : ∀ {us : List Value}, Vals vs us → Paired (itmIs P w h) is us := by
  induction hi with
  | nil => intro us r; cases r; exact .nil
  | cons h1 _ ih => intro us r; cases r with | cons r1 r2 => exact .cons (itm_of ok h1 r1) (ih r2)
theorem isN_of (ok : HOk P w H h) (hk : KeyAt H k b) : IsN P w h k b := by
  obtain ⟨vs, hb, hi⟩ := hk
  obtain ⟨_, its, r, o, h1, h2, n, h3⟩ := (show ObjOk P w H h b (.tup vs) from ok b _ hb)
  exact ⟨o, its.toArray, n, h1, h2, h3, by simpa using itms_of ok hi r⟩
theorem nd_of (ok : HOk P w H h) (e : H a = some (ND P w a kvs)) (kd : Keyed H kvs) : kvs.length ≤ sizeLine ∧ (a == sysModules) = false ∧ ∃ xs, RelT kvs xs ∧ h.DictOfH (nkKind P w) a xs := by
  obtain ⟨z, y, xs, r, o, es, ep, h1, h2, h3, h4, h5⟩ := (show ObjOk P w H h a (ND P w a kvs) from ok a _ e).1
  refine ⟨z, y, xs, r, o, es, ep, h1, h2, h3, h4, fun x hx => ?_, h5⟩
  have all : ∀ {l : KVs} {m : List (List Itm × Addr × Value)}, RelT l m → (∀ p ∈ l, KeyAt H p.1 p.2.1) → ∀ x ∈ m, (nkKind P w).is h x.1 x.2.1 := by
    intro l m q
    unfold RelT at q
    induction q with
    | nil => intro _ x hx; exact nomatch hx
    | @cons p q ps qs hq t ih =>
      intro kd x hx
      rcases List.mem_cons.mp hx with e | hx
      · subst e
        rw [← hq.1, ← hq.2.1]
        exact isN_of ok (kd p List.mem_cons_self)
      · exact ih (fun p hp => kd p (List.mem_cons_of_mem _ hp)) x hx
  exact all r kd x hx
theorem nd_new {H' : Hp} {h' : Heap} {xs : List (List Itm × Addr × Value)} (z : kvs.length ≤ sizeLine) (y : (a == sysModules) = false) (r : RelT kvs xs) (dd : h'.DictOfH (nkKind P w) a xs) : ObjOk P w H' h' a (ND P w a kvs) := by
  obtain ⟨o, es, ep, h1, h2, h3, h4, _, h5⟩ := dd
  refine ⟨⟨z, y, xs, r, o, es, ep, h1, h2, h3, h4, h5⟩, ⟨o, h1⟩, ?_⟩
  rintro g1 g2 ⟨z, y, xs, r, o, es, ep, h1, h2⟩ k
  exact ⟨z, y, xs, r, o, es, ep, k o h1, h2⟩
theorem rel_val {xs : List (List Itm × Addr × Value)} (r : RelT kvs xs) (k : List Itm) : RelO (valN kvs k) ((atKey xs k).map (·.2)) := by
  unfold RelT at r
  induction r with
  | nil => exact True.intro
  | @cons p q ps qs h t ih =>
    obtain ⟨h1, _, h2⟩ := h
    unfold valN atKey at *
    by_cases e : p.1 = k
    · have e' : q.1 = k := h1.symm.trans e
      simp only [List.find?_cons, decide_eq_true e, decide_eq_true e', Option.map_some]
      exact h2
    · have e' : ¬ q.1 = k := fun z => e (h1.trans z)
      simp only [List.find?_cons, decide_eq_false e, decide_eq_false e']
      exact ih
theorem rel_put {xs : List (List Itm × Addr × Value)} (r : RelT kvs xs) (k : List Itm) {b : Addr} {v : V} {u : Value} (rv : RelV v u) : RelT (putN kvs k b v) (storedH xs k b u) := by
  have e : (valN kvs k).isSome = (atKey xs k).isSome := by rw [(rel_val r k).isSome_eq, Option.isSome_map]
  unfold putN storedH
  rw [e]
  by_cases q : (atKey xs k).isSome = true
  · rw [if_pos q, if_pos q]
    unfold RelT at r ⊢
    clear e q
    induction r with
    | nil => exact .nil
    | @cons p q ps qs h t ih =>
      rw [List.map_cons, List.map_cons]
      refine .cons ?_ ih
      obtain ⟨h1, h2, h3⟩ := h
      unfold putAt
      by_cases e : p.1 = k
      · rw [if_pos e, if_pos (h1.symm.trans e)]; exact ⟨h1, h2, rv⟩
      · rw [if_neg e, if_neg (fun z => e (h1.trans z))]; exact ⟨h1, h2, h3⟩
  · rw [if_neg q, if_neg q]
    unfold RelT at r ⊢
    exact Paired.snoc r ⟨rfl, rfl, rv⟩
theorem putN_length (kvs : KVs) (k : List Itm) (b : Addr) (v : V) : (putN kvs k b v).length ≤ kvs.length + 1 := by
  unfold putN
  split
  · rw [List.length_map]; omega
  · rw [List.length_append, List.length_singleton]
    exact Nat.le_refl _
end

/-! ### rules -/
section
variable {X : Cx}
/-- {} -/
def tNNew (P : Program) (w : World) : TE := fun _ H Q => ∀ p, H p = none → Q (.ref p) (upd H p (ND P w p []))
theorem pe_nnew {pos : Pos} : PE X (.Dict [] [] pos) (tNNew X.prog X.w) := ⟨fun pins s σ H Q I h => by
  have dd := Heap.DictOfH.new (knd := nkKind X.prog X.w) s.heap
  refine wpAny_Dict_empty ⟨.ref s.heap.objs.size, _, I.laid (a := s.heap.objs.size) (o := ND X.prog X.w s.heap.objs.size []) (t' := s.toks) (fun _ _ q => Heap.get?_push_of_some _ q) (Nat.le_refl _)
    (nd_new (Nat.zero_le _) (beq_eq_false_iff_ne.mpr (Ne.symm (Nat.ne_of_lt I.big))) .nil dd), rfl, h _ (I.hok.fresh (Nat.le_refl _))⟩⟩
/-- k not in d -/
def tNNotIn (P : Program) (w : World) (ty td : TE) : TE := fun σ H Q => ty σ H fun y H1 => td σ H1 fun x H2 => ∃ a kvs k b, x = .ref a ∧ y = .ref b ∧ H2 a = some (ND P w a kvs) ∧ Keyed H2 kvs ∧ KeyAt H2 k b ∧ Q (.bl (!(valN kvs k).isSome)) H2
variable {o i value : Expr} {td ty tv : TE} {pos pos' : Pos}
theorem pc_nnotin (hu : X.A.units + 16 < cLine) (hi : PE X i ty) (ho : PE X o td) : PC X .NotIn i o (tNNotIn X.prog X.w ty td) := by
  refine ⟨fun pins s σ H Q I h => ?_⟩
  refine thn (hi.run pins s σ H _ I h) fun iv s1 ⟨y, H1, I1, ry, q1⟩ => thn (ho.run pins s1 σ H1 _ I1 q1) fun u s2 ⟨x, H2, I2, rx, a, kvs, k, b, ex, ey, e, kd, hk, q2⟩ => ?_
  subst ex ey
  obtain rfl : u = Value.ref a := rx
  obtain rfl : iv = Value.ref b := ry
  obtain ⟨z, hd, xs, rel, dd⟩ := nd_of I2.hok e kd
  refine wpAny_notIn_heap (knd := nkKind X.prog X.w) (by show X.A.units + 1 + 8 < cLine; omega) (isN_of I2.hok hk) hd dd ?_
  have q := (rel_val rel k).isSome_eq
  rw [Option.isSome_map] at q
  rw [← q]
  exact ⟨.bl (!(valN kvs k).isSome), H2, I2.tok _, rfl, q2⟩
/-- d[k] -/
def tNGet (P : Program) (w : World) (td ty : TE) : TE := fun σ H Q => td σ H fun x H1 => ty σ H1 fun y H2 => ∃ a kvs k b v, x = .ref a ∧ y = .ref b ∧ H2 a = some (ND P w a kvs) ∧ Keyed H2 kvs ∧ KeyAt H2 k b ∧ valN kvs k = some v ∧ Q v H2
theorem pe_nget (hu : X.A.units + 16 < cLine) (ho : PE X o td) (hi : PE X i ty) (hs : NoSl i) : PE X (.Subscript o i pos) (tNGet X.prog X.w td ty) := by
  refine ⟨fun pins s σ H Q I h => ?_⟩
  refine subD_of PySem.F.slot_dict_getitem.lookup hs (thn (ho.run pins s σ H _ I h) fun u s1 ⟨x, H1, I1, rx, q1⟩ => thn (hi.run pins s1 σ H1 _ I1 q1) fun iv s2 ⟨y, H2, I2, ry, a, kvs, k, b, v, ex, ey, e, kd, hk, hv, q2⟩ => ?_)
  subst ex ey
  obtain rfl : u = Value.ref a := rx
  obtain rfl : iv = Value.ref b := ry
  obtain ⟨z, hd, xs, rel, dd⟩ := nd_of I2.hok e kd
  obtain ⟨w', hw, rw'⟩ := RelO.some_of (v := v) (o := (atKey xs k).map (·.2)) (by rw [← hv]; exact rel_val rel k)
  obtain ⟨p, hp, hp2⟩ := Option.map_eq_some_iff.mp hw
  refine ⟨dd.typeIs, wpAny_getItem_heap (knd := nkKind X.prog X.w) (by show X.A.units + 1 + 8 < cLine; omega) (isN_of I2.hok hk) dd hp ?_⟩
  rw [hp2]
  exact ⟨v, H2, I2.tok _, rw', q2⟩
/-- d[k] = v -/
def sNPut (P : Program) (w : World) (td ty tv : TE) : TS := fun D σ H => tv σ H fun v H1 => td σ H1 fun x H2 => ty σ H2 fun y H3 => ∃ a kvs k b, x = .ref a ∧ y = .ref b ∧ H3 a = some (ND P w a kvs) ∧ Keyed H3 kvs ∧ KeyAt H3 k b ∧
  kvs.length < sizeLine ∧ D.nx σ (upd H3 a (ND P w a (putN kvs k b v)))
theorem ps_nput (hu : X.A.units + 16 < cLine) (ho : PE X o td) (hi : PE X i ty) (hv : PE X value tv) (hs : swapsWith value (some (.Subscript o i pos')) pos.line X.env = pure false) :
    PS X (.Assign [.Subscript o i pos'] value pos) (sNPut X.prog X.w td ty tv) := by
  refine ⟨fun pins s σ H D I h => ?_⟩
  refine wpAny_Assign_Subscript (thn (hv.run pins s σ H _ I h) fun r s1 ⟨v, H1, I1, rv, q1⟩ => thn (ho.run pins s1 σ H1 _ I1 q1) fun u s2 ⟨x, H2, I2, rx, q2⟩ => thn (hi.run pins s2 σ H2 _ I2 q2) fun iv s3 ⟨y, H3, I3, ry, a, kvs, k, b, ex, ey, e, kd, hk, l, q3⟩ => ?_) hs
  subst ex ey
  obtain rfl : u = Value.ref a := rx
  obtain rfl : iv = Value.ref b := ry
  obtain ⟨z, hd, xs, rel, dd⟩ := nd_of I3.hok e kd
  have hz : xs.length ≤ sizeLine := by
    have := Paired.length (show Paired _ kvs xs from rel)
    omega
  have hl : (putN kvs k b v).length ≤ sizeLine := by
    have := putN_length kvs k b v
    omega
  refine wpAny_setItem_heap (knd := nkKind X.prog X.w) (hsz := hz) (by show X.A.units + 1 + 8 < cLine; omega) (isN_of I3.hok hk) dd fun h' dd' hs => ?_
  have he : ∃ q, h'.get? a = some q := by
    obtain ⟨q, es, ep, hq, _⟩ := dd'
    exact ⟨q, hq⟩
  exact ⟨σ, _, d_write I3 (by rw [e]; exact True.intro) hs he (nd_new hl hd (rel_put rel k rv) dd'), q3⟩
/-- len(d) -/
theorem call_lenN : CallR X (.builtin "len") (fun xs H Q => ∃ a kvs, xs = [V.ref a] ∧ H a = some (ND X.prog X.w a kvs) ∧ Keyed H kvs ∧ Q (.int kvs.length) H) := by
  intro pins s σ H xs us Q I r h
  obtain ⟨a, kvs, rfl, ha, kd, q⟩ := h
  obtain ⟨u, rfl, ru⟩ := vals1 r
  obtain rfl : u = Value.ref a := ru
  obtain ⟨z, hd, ys, rel, dd⟩ := nd_of I.hok ha kd
  have hl : kvs.length = ys.length := Paired.length (show Paired _ kvs ys from rel)
  refine call_len_dictH hd dd (by rw [← hl]; rw [sizeLine_eq] at z; omega) ?_
  rw [← hl]
  exact ⟨.int ((kvs.length : Nat) : Int), H, I.tok _, ⟨_, rfl⟩, q⟩
end
end NK

set_option Elab.async false
set_option linter.all false
set_option maxRecDepth 100000
set_option maxHeartbeats 4000000
namespace W8
open PySem L2
def top (i : Nat) : Stmt := PySem.Challenge.pw_turtlestold_k89_merged_books.main.body.getD i (.Pass ⟨0, 0, 0, 0⟩)

/-! ### heaps but for one object -/
def But (a : Addr) (H H' : Hp) : Prop := ∀ b o, b ≠ a → H b = some o → H' b = some o
theorem But.refl (a : Addr) (H : Hp) : But a H H := fun _ _ _ h => h
theorem But.trans {a : Addr} {H H1 H2 : Hp} (x : But a H H1) (y : But a H1 H2) : But a H H2 := fun b o n h => y b o n (x b o n h)
theorem But.upd {a : Addr} {H : Hp} {o : HO} : But a H (upd H a o) := fun b u n h => by rw [upd_ne n]; exact h
theorem But.of {a : Addr} {H H' : Hp} (s : Same H H') : But a H H' := fun b o _ h => s b o h
theorem same_new {H : Hp} {p : Addr} (h : H p = none) (o : HO) : Same H (L2.upd H p o) := fun b u q => by rw [upd_ne (ne_of_none q h)]; exact q
theorem But.new {a p : Addr} {H : Hp} (h : H p = none) (o : HO) : But a H (L2.upd H p o) := But.of (same_new h o)
/-- what was new before and stays so -/
theorem But.seq {K : PySem.W.Frag} {a p : Addr} {H H' : Hp} {xs : List V} (x : But a H H') (n : p ≠ a) (h : SqL K H p xs) : SqL K H' p xs := by
  rcases h with (h | ⟨o, h⟩) | h
  · exact .inl (.inl (x _ _ n h))
  · exact .inl (.inr ⟨o, x _ _ n h⟩)
  · exact .inr h
theorem But.tup {K : PySem.W.Frag} {a p : Addr} {H H' : Hp} {xs : List V} (x : But a H H') (n : p ≠ a) (h : SqT K H p xs) : SqT K H' p xs := by
  rcases h with (h | ⟨o, h⟩) | h
  · exact .inl (.inl (x _ _ n h))
  · exact .inl (.inr ⟨o, x _ _ n h⟩)
  · exact .inr h
theorem sz {n : Nat} (h : n ≤ 100000) : n ≤ sizeLine := Nat.le_trans h (by decide)

theorem at_map {α : Type} (g : α → V) {cs : List α} {i : Int} (h0 : 0 ≤ i) (h : i < (cs.length : Int)) : ∃ z, z ∈ cs ∧ cs[i.toNat]? = some z ∧ atI (cs.map g) i = some (g z) := by
  have hi : i.toNat < cs.length := by omega
  have ei : i = (i.toNat : Int) := by omega
  refine ⟨cs[i.toNat], List.getElem_mem hi, List.getElem?_eq_getElem hi, ?_⟩
  have q : atI (cs.map g) (i.toNat : Int) = some (g cs[i.toNat]) := atI_nat (by rw [List.getElem?_map, List.getElem?_eq_getElem hi] <;> rfl)
  rw [← ei] at q
  exact q
theorem int_eq {i j : Int} (h : decide (V.int i = V.int j) = true) : i = j := by
  have e := of_decide_eq_true h
  injection e
theorem int_ne {i j : Int} (h : ¬ decide (V.int i = V.int j) = true) : i ≠ j := fun e => h (decide_eq_true (by rw [e]))
theorem dec_ff {p : Prop} [Decidable p] (h : ¬ decide p = true) : ¬ p := fun e => h (decide_eq_true e)
/-! ### the list that draws -/
def stL (p : Addr) (i v l m : Int) : List V := [.ref p, .int i, .int v, .int l, .int m]
structure StAt (K : PySem.W.Frag) (H : Hp) (a p : Addr) (cs : List Int) (i v l m : Int) : Prop where
  h : H a = some (.lst (stL p i v l m))
  c : H p = some (.lst (cs.map V.int))
  ne : p ≠ a
  b : ∀ z ∈ cs, Builtin.Int.intBits z ≤ 1048576
  n : cs.length ≤ 63
  i0 : 0 ≤ i
  v0 : 0 ≤ v
  m0 : m = 1 ∨ v < 2147483647
def StOk (K : PySem.W.Frag) (H : Hp) (a p : Addr) : Prop := ∃ cs i v l m, StAt K H a p cs i v l m
theorem StAt.put {K : PySem.W.Frag} {H : Hp} {a p : Addr} {cs : List Int} {i v l m i' v' l' m' : Int} (s : StAt K H a p cs i v l m) (xs : List V) (e : xs = stL p i' v' l' m') (hi : 0 ≤ i') (hv : 0 ≤ v') (hm : m' = 1 ∨ v' < 2147483647) : StAt K (upd H a (.lst xs)) a p cs i' v' l' m' :=
  ⟨by rw [upd_same, e], But.upd _ _ s.ne s.c, s.ne, s.b, s.n, hi, hv, hm⟩

/-! ### a def that may be called by its name -/
structure Cal (P : Program) (w : World) (K : PySem.W.Frag) (mg : Str → Option Value) (base : Heap) (x : Str) (k : Nat) (ps : List Str) (sp : Sp) : Prop where
  ex : ∃ (f : Addr) (fd : FuncData), FnOk P w K mg base CX0 k f fd ps sp ∧ mg x = some (.ref f) ∧ PySem.W.keepIn K (.ref f) = true ∧ Binds K fd ps []
section
variable {X : Cx} {x : Str} {k j : Nat} {ps : List Str} {sp : Sp} {p pos : Pos} {e : Expr} {es : List Expr} {t : TA}
theorem pcall (C : Cal X.prog X.w X.K X.mg X.base x k ps sp) (hr : Room j X.A) (ha : PA X (e :: es) t) (hk : k ≤ j := by decide) (hg : Gl X x := by rfl) (hdb : (x == ("__debug__" : Str)) = false := by decide)
    (he : starEach (e :: es) X.env = (false, eval e X.env) :: starEach es X.env := by rfl) (hpl : (backTo pos (starEach es X.env)).any (·.1) = false := by rfl) : PE X (.Call (.Name x p) (e :: es) [] pos) (tCall sp [] E0 t) := by
  obtain ⟨f, fd, G, hm, kp, b⟩ := C.ex
  exact pe_call G (hr.mono hk) hg hm kp b .nil pass0 ha hdb he hpl
/-- built-ins by their names -/
theorem pB1 {a : Expr} {ta : TE} {id : String} {r : List V → Hp → VK → Prop} (hc : CallR X (.builtin id) r) (tl : X.mg x = none) (ha : PE X a ta) (hv : bootBuiltins x = some (.builtin id) := by decide +kernel) (hg : Gl X x := by rfl) (hn : x ≠ "__name__" := by decide)
    (hdb : (x == ("__debug__" : Str)) = false := by decide) (hs : starEach [a] X.env = (false, eval a X.env) :: starEach [] X.env := by rfl) : PE X (.Call (.Name x p) [a] [] pos) (tCB r (tCons ta tNil)) :=
  pe_callB hc hg tl hv (pa_cons ha pa_nil hs) hn hdb hs
theorem pT1 {a : Expr} {ta : TE} {T : String} {r : List V → Hp → VK → Prop} (hc : CallR X (.type T) r) (tl : X.mg x = none) (ha : PE X a ta) (hv : bootBuiltins x = some (.type T) := by decide +kernel) (hg : Gl X x := by rfl) (hn : x ≠ "__name__" := by decide)
    (hdb : (x == ("__debug__" : Str)) = false := by decide) (hs : starEach [a] X.env = (false, eval a X.env) :: starEach [] X.env := by rfl) : PE X (.Call (.Name x p) [a] [] pos) (tCB r (tCons ta tNil)) :=
  pe_callTy hc hg tl hv (pa_cons ha pa_nil hs) hn hdb hs
def rTupOf (K : PySem.W.Frag) : List V → Hp → VK → Prop := fun xs H Q => ∃ p ys, xs = [.ref p] ∧ ((SqL K H p ys ∧ ∀ l, H l = none → Q (.ref l) (upd H l (.tup ys))) ∨ (SqT K H p ys ∧ Q (.ref p) H))
theorem cr_tupOf : CallR X (.type "tuple") (rTupOf X.K) := call_tuple_of
def rLstOf (K : PySem.W.Frag) : List V → Hp → VK → Prop := fun xs H Q => ∃ p ys, xs = [.ref p] ∧ (SqL K H p ys ∨ SqT K H p ys) ∧ ∀ l, H l = none → Q (.ref l) (upd H l (.lst ys))
theorem cr_lstOf : CallR X (.type "list") (rLstOf X.K) := call_list_of
def rLenOf (K : PySem.W.Frag) : List V → Hp → VK → Prop := fun xs H Q => ∃ p ys, xs = [.ref p] ∧ (SqL K H p ys ∨ SqT K H p ys) ∧ Q (.int ys.length) H
theorem cr_lenOf : CallR X (.builtin "len") (rLenOf X.K) := call_len_seq
variable {a b o : Expr} {ta tb : TE}
abbrev pixL (ha : PE X a ta) (hb : PE X b tb) (hs : PlainIx b := by exact fun _ _ => rfl) : PE X (.Subscript a b pos) (tOp (rIxL X.K) ta tb) := pe_ix ix_list ha hb hs
abbrev pixT (ha : PE X a ta) (hb : PE X b tb) (hs : PlainIx b := by exact fun _ _ => rfl) : PE X (.Subscript a b pos) (tOp (rIxT X.K) ta tb) := pe_ix ix_tup ha hb hs
abbrev pixS (ha : PE X a ta) (hb : PE X b tb) (hs : PlainIx b := by exact fun _ _ => rfl) : PE X (.Subscript a b pos) (tOp rIxS ta tb) := pe_ix ix_str ha hb hs
end

/-! ### texts as lists of codes -/
def S (w : List Nat) : Str := ⟨w.toArray⟩
theorem S_len (w : List Nat) : (S w).length = w.length := rfl
theorem S_app (u v : List Nat) : S u ++ S v = S (u ++ v) := by
  show (⟨u.toArray ++ v.toArray⟩ : Str) = ⟨(u ++ v).toArray⟩
  rw [List.append_toArray]
theorem S_one (c : Nat) : (⟨#[c]⟩ : Str) = S [c] := rfl
theorem S_inj {u v : List Nat} (h : S u = S v) : u = v := by
  have : u.toArray = v.toArray := congrArg Str.cps h
  simpa using this
theorem S_of (z : Str) : z = S z.cps.toList := by
  cases z
  rfl
theorem S_codes (w : List Nat) : (S w).cps.toList = w := rfl
theorem at_S {w : List Nat} {i : Int} (h0 : 0 ≤ i) (h : i < (w.length : Int)) : ∃ c, c ∈ w ∧ w[i.toNat]? = some c ∧ atI (S w).cps.toList i = some c := by
  have hi : i.toNat < w.length := by omega
  have ei : i = (i.toNat : Int) := by omega
  refine ⟨w[i.toNat], List.getElem_mem hi, List.getElem?_eq_getElem hi, ?_⟩
  have q : atI w (i.toNat : Int) = some w[i.toNat] := atI_nat (List.getElem?_eq_getElem hi)
  rw [← ei] at q
  exact q
end W8

set_option Elab.async false
set_option linter.all false
set_option maxRecDepth 100000
set_option maxHeartbeats 4000000
namespace W8
open PySem L2
/-! ### walks of comprehensions by a word over what is made so far -/
section
variable {K : PySem.W.Frag} {body : V → Hp → (Hp → Prop) → Prop} {Qn : Hp → Prop} {H0 : Hp}
theorem walk_t {a : Addr} {xs : List V} (Pv : Nat → Hp → Prop) (h0 : Pv 0 H0) (hl : ∀ i H, Pv i H → SqT K H a xs) (hs : ∀ i x H, xs[i]? = some x → Pv i H → body x H (Pv (i + 1))) (hd : ∀ H, Pv xs.length H → Qn H) :
    ∃ W : Nat → Nat → Hp → Prop, (∃ m, W 0 m H0) ∧ ∀ i m H, W i m H → ((Itt K a).stop i H ∧ Qn H) ∨ ((Itt K a).go i H ∧ ∃ Nx : Hp → Prop, (∀ H', Nx H' → ∃ m', m' < m ∧ W (i + 1) m' H') ∧ ∀ x H', (Itt K a).yld i H x H' → body x H' Nx) := by
  refine ⟨fun i m H => m = xs.length - i ∧ i ≤ xs.length ∧ Pv i H, ⟨xs.length, by simp, Nat.zero_le _, h0⟩, ?_⟩
  rintro i m H ⟨rfl, hi, p⟩
  have q := hl i H p
  by_cases hlt : i < xs.length
  · refine .inr ⟨⟨xs, xs[i], q, by simp [hlt]⟩, Pv (i + 1), fun H' p' => ⟨xs.length - (i + 1), by omega, rfl, hlt, p'⟩, fun x H' y => ?_⟩
    obtain ⟨e, y⟩ := y
    subst e
    exact hs i x _ (y xs q) p
  · have e : i = xs.length := by omega
    subst e
    exact .inl ⟨⟨xs, q, Nat.le_refl _⟩, hd H p⟩
theorem walk_l {a : Addr} {xs : List V} (Pv : Nat → Hp → Prop) (h0 : Pv 0 H0) (hl : ∀ i H, Pv i H → SqL K H a xs) (hs : ∀ i x H, xs[i]? = some x → Pv i H → body x H (Pv (i + 1))) (hd : ∀ H, Pv xs.length H → Qn H) :
    ∃ W : Nat → Nat → Hp → Prop, (∃ m, W 0 m H0) ∧ ∀ i m H, W i m H → ((Itl K a).stop i H ∧ Qn H) ∨ ((Itl K a).go i H ∧ ∃ Nx : Hp → Prop, (∀ H', Nx H' → ∃ m', m' < m ∧ W (i + 1) m' H') ∧ ∀ x H', (Itl K a).yld i H x H' → body x H' Nx) := by
  refine ⟨fun i m H => m = xs.length - i ∧ i ≤ xs.length ∧ Pv i H, ⟨xs.length, by simp, Nat.zero_le _, h0⟩, ?_⟩
  rintro i m H ⟨rfl, hi, p⟩
  have q := hl i H p
  by_cases hlt : i < xs.length
  · refine .inr ⟨⟨xs, xs[i], q, by simp [hlt]⟩, Pv (i + 1), fun H' p' => ⟨xs.length - (i + 1), by omega, rfl, hlt, p'⟩, fun x H' y => ?_⟩
    obtain ⟨e, y⟩ := y
    subst e
    exact hs i x _ (y xs q) p
  · have e : i = xs.length := by omega
    subst e
    exact .inl ⟨⟨xs, q, Nat.le_refl _⟩, hd H p⟩
theorem walk_r {lo : Int} {n : Nat} (Pv : Nat → Hp → Prop) (h0 : Pv 0 H0) (hs : ∀ i H, i < n → Pv i H → body (.int (lo + (i : Nat))) H (Pv (i + 1))) (hd : ∀ H, Pv n H → Qn H) :
    ∃ W : Nat → Nat → Hp → Prop, (∃ m, W 0 m H0) ∧ ∀ i m H, W i m H → ((Itr lo n).stop i H ∧ Qn H) ∨ ((Itr lo n).go i H ∧ ∃ Nx : Hp → Prop, (∀ H', Nx H' → ∃ m', m' < m ∧ W (i + 1) m' H') ∧ ∀ x H', (Itr lo n).yld i H x H' → body x H' Nx) := by
  refine ⟨fun i m H => m = n - i ∧ i ≤ n ∧ Pv i H, ⟨n, by simp, Nat.zero_le _, h0⟩, ?_⟩
  rintro i m H ⟨rfl, hi, p⟩
  by_cases hlt : i < n
  · refine .inr ⟨hlt, Pv (i + 1), fun H' p' => ⟨n - (i + 1), by omega, rfl, hlt, p'⟩, fun x H' y => ?_⟩
    obtain ⟨e, y⟩ := y
    subst e y
    exact hs i _ hlt p
  · have e : i = n := by omega
    subst e
    exact .inl ⟨Nat.le_refl _, hd H p⟩
end
/-- no test stands in the comprehension -/
theorem yes {σ : L2.St} {H : Hp} {A B : Hp → Prop} (h : A H) : tYes σ H (fun b H' => if b = true then A H' else B H') := by
  show if true = true then A H else B H
  rw [if_pos rfl]
  exact h
theorem small_lt {n : Nat} (h : n < 100000) : n < sizeLine := Nat.lt_of_lt_of_le h (by decide)
/-- a value is made by the element of a comprehension, the list at D grows -/
theorem grown {H4 : Hp} {D : Addr} {acc : List V} {y : V} {N : Hp → Prop} (h : H4 D = some (.lst acc)) (hn : acc.length < 100000) (q : N (upd H4 D (.lst (acc ++ [y])))) : ∃ acc', H4 D = some (.lst acc') ∧ acc'.length < sizeLine ∧ N (upd H4 D (.lst (acc' ++ [y]))) :=
  ⟨acc, h, small_lt hn, q⟩
theorem take_succ_map {α : Type} (g : α → V) {xs : List α} {i : Nat} {x : α} (h : xs[i]? = some x) : (xs.take (i + 1)).map g = (xs.take i).map g ++ [g x] := by
  rw [List.take_add_one, h, List.map_append]
  rfl
end W8

set_option Elab.async false
set_option linter.all false
set_option maxRecDepth 100000
set_option maxHeartbeats 4000000
namespace W8
open PySem L2
abbrev sDraw : Stmt := top 59
theorem scDraw : FnScope ["state", "many", "cell", "digit"] ["state", "many"] (defScope sDraw) := ⟨rfl, rfl, rfl, by decide +kernel, rfl, by decide +kernel, by decide +kernel⟩
/-- a number below many, and the drawing list goes on -/
def spDraw (K : PySem.W.Frag) : Sp := fun vs H Q _ => ∃ (a : Addr) (m : Int), vs = [.ref a, .int m] ∧ 1 ≤ m ∧ m ≤ 1000 ∧ ∃ p, StOk K H a p ∧ ∀ r H', 0 ≤ r → r < m → But a H H' → StOk K H' a p → Q (.int r) H'
section
variable {P : Program} {w : World} {K : PySem.W.Frag} {mg : Str → Option Value} {base : Heap}
theorem ok_draw {f : Addr} {fd : FuncData} (F : Fun K "_law_draw" "_law_draw" sDraw f fd) (tl : mg "len" = none) (ti : mg "int" = none) : FnOk P w K mg base CX0 1 f fd ["state", "many"] (spDraw K) := by
  refine F.ok scDraw (fun vs H Q E h => ?_) (fun cdv A outer s H vs Q E hr h => ?_)
  · obtain ⟨a, m, rfl, _⟩ := h
    rfl
  obtain ⟨a, many, rfl, m1, m2, p, ⟨cs, i, v, l, m, S⟩, q⟩ := h
  refine ⟨_, C8.pss_cut (ps_if (PW.pt (pw_and (pt_cmpR op_eq (pixL (pv 0) pe_int) pe_int (nomark _))
        (pw_and1 (pt_cmpR op_lt (pixL (pv 0) pe_int) (pB1 call_len_seq tl (pixL (pv 0) pe_int)) (nomark _)))))
      (pss_cons (ps_set (i := 2) scDraw.nd rfl (Or.inl rfl) (pixL (pixL (pv 0) pe_int) (pixL (pv 0) pe_int)))
        (pss_cons (ps_asg (pe_op op_add (pixL (pv 0) pe_int) pe_int) (pg_sub (pv 0) pe_int set_list))
        (pss_one (ps_if (pt_cmpR op_ge (pv 2) (pe_op op_pow pe_int pe_int) (nomark _))
          (pss_cons (ps_asg (pe_op op_sub (pv 2) (pe_op op_pow pe_int pe_int)) (pg_sub (pv 0) pe_int set_list))
            (pss_cons (ps_asg pe_int (pg_sub (pv 0) pe_int set_list)) (pss_one (ps_asg pe_int (pg_sub (pv 0) pe_int set_list)))))
          (pss_cons (ps_asg (pe_op op_mod (pT1 call_int1 ti (pe_op op_mulB (pv 2) pe_int)) pe_int) (pg_sub (pv 0) pe_int set_list))
            (pss_cons (ps_asg pe_int (pg_sub (pv 0) pe_int set_list)) (pss_one (ps_asg pe_int (pg_sub (pv 0) pe_int set_list)))))))))
      pss_nil)
    (pss_cons (ps_if (pt_cmpR op_eq (pixL (pv 0) pe_int) pe_int (nomark _)) (pss_one (ps_ret pe_int)) pss_nil)
    (pss_cons (ps_asg (pe_op op_sub (pixL (pv 0) pe_int) pe_int) (pg_sub (pv 0) pe_int set_list))
    (pss_cons (ps_if (pt_cmpR op_eq (pixL (pv 0) pe_int) pe_int (nomark _))
      (pss_cons (ps_set (i := 3) scDraw.nd rfl (Or.inl rfl) (pe_op op_mod (pT1 call_int1 ti (pixL (pv 0) pe_int)) (pv 1)))
        (pss_cons (ps_asg (pe_op op_fdiv (pixL (pv 0) pe_int) (pv 1)) (pg_sub (pv 0) pe_int set_list))
        (pss_cons (ps_if (pt_cmpR op_eq (pixL (pv 0) pe_int) pe_int (nomark _)) (pss_one (ps_asg pe_int (pg_sub (pv 0) pe_int set_list))) pss_nil)
        (pss_one (ps_ret (pv 3)))))) pss_nil)
    (pss_cons (ps_asg (pe_op op_mod (pT1 call_int1 ti (pe_op op_mul (pixL (pv 0) pe_int) pe_int)) pe_int) (pg_sub (pv 0) pe_int set_list))
    (pss_one (ps_ret (pe_op op_mod (pT1 call_int1 ti (pe_op op_fdiv (pixL (pv 0) pe_int) pe_int)) (pv 1)))))))), ?_⟩
  refine ⟨fun σ' H' => ∃ (x : Option V) (cs : List Int) (i v l m : Int), σ' = [some (.ref a), some (.int many), x, none] ∧ But a H H' ∧ StAt K H' a p cs i v l m, ?_, ?_⟩
  · -- if state[3] == 0 and state[1] < len(state[0]): ..
    refine ⟨_, rfl, _, _, _, _, rfl, rfl, SqL.of S.h, rfl, rfl, _, rfl, ?_⟩
    refine ite2 (fun e1 => ?_) (fun _ => ?_)
    · refine ⟨_, rfl, _, _, _, _, rfl, rfl, SqL.of S.h, rfl, _, rfl, _, _, _, _, rfl, rfl, SqL.of S.h, rfl, _, _, rfl, .inl (SqL.of S.c), _, _, rfl, rfl, _, rfl, ?_⟩
      refine ite2 (fun e2 => ?_) (fun _ => ?_)
      · have e2' : i < ((cs.map V.int).length : Int) := of_decide_eq_true e2
        rw [List.length_map] at e2'
        obtain ⟨cell, hm, _, hat⟩ := at_map V.int S.i0 e2'
        have hb := S.b _ hm
        refine ⟨_, rfl, _, _, _, _, rfl, rfl, SqL.of S.h, rfl, _, rfl, _, _, _, _, rfl, rfl, SqL.of S.h, rfl, _, _, _, _, rfl, rfl, SqL.of S.c, hat, ?_⟩
        -- state[1] = state[1] + 1
        refine ⟨_, rfl, _, _, _, _, rfl, rfl, SqL.of S.h, rfl, _, _, rfl, rfl, _, rfl, _, _, _, _, rfl, rfl, S.h, rfl, ?_⟩
        have S1 : StAt K (upd H a (.lst (stL p (i + 1) v l m))) a p cs (i + 1) v l m := S.put _ rfl (by have := S.i0; omega) S.v0 S.m0
        have B1 : But a H (upd H a (.lst (stL p (i + 1) v l m))) := But.upd
        refine ⟨_, rfl, _, _, rfl, rfl, ⟨by decide, by decide, by decide⟩, _, _, rfl, rfl, _, rfl, ?_⟩
        refine ite2 (fun e3 => ?_) (fun _ => ?_)
        · -- state[2] = cell - 10 ** 18; state[3] = 60; state[4] = 1
          have e3' : (10 : Int) ^ 18 ≤ cell := of_decide_eq_true e3
          refine ⟨_, rfl, _, _, rfl, rfl, ⟨by decide, by decide, by decide⟩, _, _, rfl, rfl, _, rfl, _, _, _, _, rfl, rfl, S1.h, rfl, ?_⟩
          refine ⟨_, rfl, _, _, _, _, rfl, rfl, upd_same, rfl, ?_⟩
          refine ⟨_, rfl, _, _, _, _, rfl, rfl, upd_same, rfl, ?_⟩
          rw [upd_upd, upd_upd]
          exact ⟨some (.int cell), cs, i + 1, cell - 10 ^ 18, 60, 1, rfl, B1.trans But.upd, S1.put _ rfl S1.i0 (by omega) (.inl rfl)⟩
        · refine ⟨_, rfl, _, _, rfl, rfl, ⟨by omega, by decide⟩, .inl ⟨_, rfl, _, _, rfl, rfl, (by show (0 : Int) < 2147483647; decide), _, rfl, _, _, _, _, rfl, rfl, S1.h, rfl, ?_⟩⟩
          refine ⟨_, rfl, _, _, _, _, rfl, rfl, upd_same, rfl, ?_⟩
          refine ⟨_, rfl, _, _, _, _, rfl, rfl, upd_same, rfl, ?_⟩
          rw [upd_upd, upd_upd]
          exact ⟨some (.int cell), cs, i + 1, cell * 48271 % 2147483647, 5, 0, rfl, B1.trans But.upd, S1.put _ rfl S1.i0 (by omega) (.inr (by omega))⟩
      · exact ⟨none, cs, i, v, l, m, rfl, But.refl _ _, S⟩
    · exact ⟨none, cs, i, v, l, m, rfl, But.refl _ _, S⟩
  · rintro σ' H1 ⟨x, cs, i, v, l, m, rfl, B, S⟩
    -- if state[3] == 0: return 0
    refine ⟨_, rfl, _, _, _, _, rfl, rfl, SqL.of S.h, rfl, rfl, _, rfl, ?_⟩
    refine ite2 (fun _ => ?_) (fun _ => ?_)
    · exact q 0 H1 (by omega) (by omega) B ⟨_, _, _, _, _, S⟩
    -- state[3] = state[3] - 1
    refine ⟨_, rfl, _, _, _, _, rfl, rfl, SqL.of S.h, rfl, _, _, rfl, rfl, _, rfl, _, _, _, _, rfl, rfl, S.h, rfl, ?_⟩
    have S1 : StAt K (upd H1 a (.lst (stL p i v (l - 1) m))) a p cs i v (l - 1) m := S.put _ rfl S.i0 S.v0 S.m0
    have B1 : But a H (upd H1 a (.lst (stL p i v (l - 1) m))) := B.trans But.upd
    refine ⟨_, rfl, _, _, _, _, rfl, rfl, SqL.of S1.h, rfl, rfl, _, rfl, ?_⟩
    refine ite2 (fun e1 => ?_) (fun e1 => ?_)
    · -- digit = int(state[2]) % many; state[2] = state[2] // many
      refine ⟨_, rfl, _, _, _, _, rfl, rfl, SqL.of S1.h, rfl, .inl ⟨_, rfl, _, rfl, _, _, rfl, rfl, (by show 0 < many; omega), ?_⟩⟩
      refine ⟨_, rfl, _, _, _, _, rfl, rfl, SqL.of S1.h, rfl, _, rfl, _, _, rfl, rfl, ⟨by omega, by omega⟩, _, rfl, _, _, _, _, rfl, rfl, S1.h, rfl, ?_⟩
      have v1 : 0 ≤ v / many := Int.ediv_nonneg S1.v0 (by omega)
      have hm1 := int_eq e1
      refine ⟨_, rfl, _, _, _, _, rfl, rfl, SqL.of upd_same, rfl, rfl, _, rfl, ?_⟩
      have d0 : 0 ≤ v % many := Int.emod_nonneg _ (by omega)
      have d1 : v % many < many := Int.emod_lt_of_pos _ (by omega)
      refine ite2 (fun _ => ?_) (fun _ => ?_)
      · refine ⟨_, rfl, _, _, _, _, rfl, rfl, upd_same, rfl, ?_⟩
        rw [upd_upd]
        exact ⟨_, rfl, q _ _ d0 d1 (B1.trans But.upd) ⟨cs, i, v / many, 0, m, S1.put _ rfl S1.i0 v1 (.inl hm1)⟩⟩
      · exact ⟨_, rfl, q _ _ d0 d1 (B1.trans But.upd) ⟨cs, i, v / many, l - 1, m, S1.put _ rfl S1.i0 v1 (.inl hm1)⟩⟩
    · have v2 : v < 2147483647 := S1.m0.resolve_left (int_ne e1)
      have v0 := S1.v0
      refine ⟨_, rfl, _, _, _, _, rfl, rfl, SqL.of S1.h, rfl, _, _, rfl, rfl, .inl ⟨by omega, by omega⟩, .inl ⟨_, rfl, _, _, rfl, rfl, (by show (0 : Int) < 2147483629; decide), _, rfl, _, _, _, _, rfl, rfl, S1.h, rfl, ?_⟩⟩
      refine ⟨_, rfl, _, _, _, _, rfl, rfl, SqL.of upd_same, rfl, _, _, rfl, rfl, ⟨by decide, by decide⟩, .inl ⟨_, rfl, _, rfl, _, _, rfl, rfl, (by show 0 < many; omega), ?_⟩⟩
      exact q _ _ (Int.emod_nonneg _ (by omega)) (Int.emod_lt_of_pos _ (by omega)) (B1.trans But.upd) ⟨cs, i, v * 69621 % 2147483629, l - 1, m, S1.put _ rfl S1.i0 (by omega) (.inr (by omega))⟩
end
end W8

set_option Elab.async false
set_option linter.all false
set_option maxRecDepth 100000
set_option maxHeartbeats 4000000
namespace W8
open PySem L2
abbrev sLetters : Stmt := top 61
theorem scLetters : FnScope ["state", "most", "small", "count", "at", "letters", "k"] ["state", "most"] (defScope sLetters) := ⟨rfl, rfl, rfl, by decide +kernel, rfl, by decide +kernel, by decide +kernel⟩
/-- the small letters -/
def small : List Nat := (List.range 26).map (· + 97)
theorem small_eq : ("abcdefghijklmnopqrstuvwxyz" : Str) = S small := by decide +kernel
theorem small_at {i : Int} (h0 : 0 ≤ i) (h : i < 26) : atI (S small).cps.toList i = some (i.toNat + 97) := by
  obtain ⟨c, _, hc, hat⟩ := at_S (w := small) h0 (by show i < 26; exact h)
  rw [hat, ← hc]
  unfold small
  rw [List.getElem?_map, List.getElem?_range (by omega)] <;> rfl
/-- letters in ascending order, the last one at most the place n -/
structure Alph (al : List Nat) (n : Nat) : Prop where
  ne : al ≠ []
  asc : al.Pairwise (· < ·)
  lo : ∀ c ∈ al, 97 ≤ c ∧ c ≤ n + 97
def spLetters (K : PySem.W.Frag) : Sp := fun vs H Q _ => ∃ (a : Addr) (m : Int), vs = [.ref a, .int m] ∧ 1 ≤ m ∧ m ≤ 3 ∧ ∃ p, StOk K H a p ∧ ∀ al H', Alph al (8 * al.length - 1) → (al.length : Int) ≤ m → But a H H' → StOk K H' a p → Q (.str (S al)) H'
section
variable {P : Program} {w : World} {K : PySem.W.Frag} {mg : Str → Option Value} {base : Heap}
theorem ok_letters {f : Addr} {fd : FuncData} (F : Fun K "_law_letters" "_law_letters" sLetters f fd) (tr : mg "range" = none) (D : Cal P w K mg base "_law_draw" 1 ["state", "many"] (spDraw K)) : FnOk P w K mg base CX0 2 f fd ["state", "most"] (spLetters K) := by
  refine F.ok scLetters (fun vs H Q E h => ?_) (fun cdv A outer s H vs Q E hr h => ?_)
  · obtain ⟨a, m, rfl, _⟩ := h
    rfl
  obtain ⟨a, most, rfl, m1, m2, p, S0, q⟩ := h
  refine ⟨_, pss_cons (ps_set (i := 2) scLetters.nd rfl (Or.inl rfl) pe_str)
    (pss_cons (ps_set (i := 3) scLetters.nd rfl (Or.inl rfl) (pe_op op_add pe_int (pcall D hr (pa_cons (pv 0) (pa_cons (pv 1) pa_nil)))))
    (pss_cons (ps_set (i := 4) scLetters.nd rfl (Or.inl rfl) (pcall D hr (pa_cons (pv 0) (pa_cons pe_int pa_nil))))
    (pss_cons (ps_set (i := 5) scLetters.nd rfl (Or.inl rfl) (pixS (pv 2) (pv 4)))
    (pss_cons (ps_for PassesOwn.never rfl (pi_range1 (by rfl) tr (pa_cons (pe_op op_sub (pv 3) pe_int) pa_nil)) (pg_name (i := 6) scLetters.nd rfl (Or.inl rfl))
      (pss_cons (ps_set (i := 4) scLetters.nd rfl (Or.inl rfl) (pe_op op_add (pe_op op_add (pv 4) pe_int) (pcall D hr (pa_cons (pv 0) (pa_cons pe_int pa_nil)))))
      (pss_one (ps_set (i := 5) scLetters.nd rfl (Or.inl rfl) (pe_op op_add_str (pv 5) (pixS (pv 2) (pv 4)))))))
    (pss_one (ps_ret (pv 5))))))), ?_⟩
  refine ⟨_, rfl, _, rfl, a, most, rfl, m1, by omega, _, S0, fun c H1 c0 c1 B1 S1 => ?_⟩
  refine ⟨_, _, rfl, rfl, _, rfl, a, 8, rfl, by omega, by omega, _, S1, fun t H2 t0 t1 B2 S2 => ?_⟩
  refine ⟨_, rfl, _, rfl, S small, t, _, by rw [small_eq], rfl, by decide, small_at t0 (by omega), ?_⟩
  refine ⟨_, rfl, _, _, rfl, rfl, _, rfl, by omega, by omega, ?_⟩
  have en : (1 + c - 1).toNat = c.toNat := by omega
  rw [en]
  refine for_range (lo := 0) (n := c.toNat) (fun i σ H' => ∃ (al : List Nat) (x : Nat) (kk : Option V), σ = [some (.ref a), some (.int most), some (.str (S small)), some (.int (1 + c)), some (.int (x : Int)), some (.str (S al)), kk] ∧
      al.length = i + 1 ∧ x + 1 ≤ 8 * (i + 1) ∧ al.Pairwise (· < ·) ∧ (∀ y ∈ al, 97 ≤ y ∧ y ≤ x + 97) ∧ But a H H' ∧ StOk K H' a p) ?_ ?_ ?_
  · refine ⟨[t.toNat + 97], t.toNat, none, ?_, rfl, by omega, List.pairwise_singleton _ _, fun y hy => ?_, B1.trans B2, S2⟩
    · rw [Int.toNat_of_nonneg t0, small_eq]
      rfl
    · rw [List.mem_singleton.mp hy]
      omega
  · rintro i σ H3 hi ⟨al, x, kk, rfl, l1, l2, pw, lo, B3, S3⟩
    refine ⟨_, rfl, _, _, rfl, rfl, _, rfl, a, 8, rfl, by omega, by omega, _, S3, fun u H4 u0 u1 B4 S4 => ?_⟩
    refine ⟨_, _, rfl, rfl, _, rfl, _, rfl, _, rfl, S small, _, _, rfl, rfl, by decide, small_at (i := (x : Int) + 1 + u) (by omega) (by omega), _, _, rfl, rfl, ?_, ?_⟩
    · rw [S_len]
      exact sz (by show al.length + 1 ≤ 100000; omega)
    refine ⟨al ++ [((x : Int) + 1 + u).toNat + 97], ((x : Int) + 1 + u).toNat, some (.int (0 + (i : Int))), ?_, by rw [List.length_append, l1] <;> rfl, by omega, ?_, fun y hy => ?_, B3.trans B4, S4⟩
    · rw [Int.toNat_of_nonneg (by omega), S_one, S_app]
      rfl
    · refine List.pairwise_append.mpr ⟨pw, List.pairwise_singleton _ _, fun y hy z hz => ?_⟩
      have := lo y hy
      rw [List.mem_singleton.mp hz]
      omega
    · rcases List.mem_append.mp hy with h | h
      · have := lo y h
        omega
      · rw [List.mem_singleton.mp h]
        omega
  · rintro σ H3 ⟨al, x, kk, rfl, l1, l2, pw, lo, B3, S3⟩
    refine ⟨_, rfl, q al H3 ⟨(fun e => by rw [e] at l1; cases l1), pw, fun y hy => ?_⟩ (by omega) B3 S3⟩
    have := lo y hy
    omega
end
end W8

set_option Elab.async false
set_option linter.all false
set_option maxRecDepth 100000
set_option maxHeartbeats 4000000
namespace W8
open PySem L2
structure AlphOk (al : List Nat) : Prop where
  n1 : 1 ≤ al.length
  n3 : al.length ≤ 3
  asc : al.Pairwise (· < ·)
  lo : ∀ c ∈ al, 97 ≤ c ∧ c ≤ 122
theorem mem_small {c : Nat} (h : 97 ≤ c ∧ c ≤ 122) : c ∈ small := by
  unfold small
  exact List.mem_map.mpr ⟨c - 97, List.mem_range.mpr (by omega), by omega⟩
abbrev sCheckL : Stmt := top 24
theorem scCheckL : FnScope ["letters", "last", "letter"] ["letters"] (defScope sCheckL) := ⟨rfl, rfl, rfl, by decide +kernel, rfl, by decide +kernel, by decide +kernel⟩
def spCheckL : Sp := fun vs H Q _ => ∃ al, vs = [.str (S al)] ∧ AlphOk al ∧ Q (.str (S al)) H
theorem single_lt (a b : Nat) : ([a] < [b]) ↔ a < b := by
  constructor
  · intro h
    cases h with
    | rel h => exact h
    | cons h => cases h
  · exact fun h => List.Lex.rel h
theorem walk_enumS {z : Str} : L2.Walk (Ites z) z.cps.size (fun _ => True) (fun i H v H' => ∃ T c, v = .ref T ∧ H T = none ∧ H' = upd H T (.tup [.int (i : Nat), .str ⟨#[c]⟩]) ∧ z.cps[i]? = some c) :=
  ⟨fun _ _ hi _ => hi, fun _ _ => Nat.le_refl _, fun _ _ _ _ _ _ y => y⟩
section
variable {P : Program} {w : World} {K : PySem.W.Frag} {mg : Str → Option Value} {base : Heap}
theorem ok_checkL {f : Addr} {fd : FuncData} {t1 t2 : Tok} (F : Fun K "check_letters" "check_letters" sCheckL f fd) (tl : mg "len" = none) (gM : mg "MOST_LETTERS" = some (.int 3 t1)) (gS : mg "SMALL_words" = some (.str "abcdefghijklmnopqrstuvwxyz" t2)) : FnOk P w K mg base CX0 1 f fd ["letters"] spCheckL := by
  refine F.ok scCheckL (fun vs H Q E h => ?_) (fun cdv A outer s H vs Q E hr h => ?_)
  · obtain ⟨al, rfl, _⟩ := h
    rfl
  obtain ⟨al, rfl, hA, q⟩ := h
  have n1 := hA.n1
  have n3 := hA.n3
  refine ⟨_, (pss_cons (ps_if (pt_not (pt_chain op_le op_le pe_int (pB1 call_len_str tl (pv 0)) (pe_glob (v := .int 3) rfl gM ⟨_, rfl⟩))) (pss_one ps_never) pss_nil)
    (pss_cons (ps_set (i := 1) scCheckL.nd rfl (Or.inl rfl) pe_str)
    (pss_cons (ps_for PassesOwn.never rfl (pi_str (pv 0)) (pg_name (i := 2) scCheckL.nd rfl (Or.inl rfl))
      (pss_cons (ps_if (PW.pt (pw_or (pt_cmpR op_notIn_sign (pv 2) (pe_glob (v := .str "abcdefghijklmnopqrstuvwxyz") rfl gS ⟨_, rfl⟩) rfl) (pw_or1 (pt_cmpR op_le_str (pv 2) (pv 1) (nomark _))))) (pss_one ps_never) pss_nil)
      (pss_one (ps_set (i := 1) scCheckL.nd rfl (Or.inl rfl) (pv 2)))))
    (pss_one (ps_ret (pv 0)))))), ?_⟩
  refine ⟨_, rfl, _, rfl, by rw [S_len]; exact sz (by omega), _, _, rfl, rfl, _, rfl, ?_⟩
  refine ite2 (fun _ => ?_) (fun e => absurd (decide_eq_true (by rw [S_len]; omega)) e)
  refine ⟨_, _, rfl, rfl, _, rfl, ?_⟩
  refine ite2 (fun e => ?_) (fun _ => ?_)
  · have e2 : decide (((S al).length : Int) ≤ 3) = true := decide_eq_true (by rw [S_len]; omega)
    rw [e2] at e
    cases e
  refine ⟨_, rfl, _, rfl, ?_⟩
  refine L2.for_it L2.walk_str (fun i σ H' => ∃ (l : List Nat) (x : Option V), σ = [some (.str (S al)), some (.str (S l)), x] ∧ H' = H ∧ ∀ y, al[i]? = some y → l < [y]) ⟨[], none, rfl, rfl, fun y _ => List.nil_lt_cons _ _⟩ (fun _ _ _ _ _ => trivial) ?_ ?_
  · rintro i x σ H1 H2 hi ⟨l, z, rfl, rfl, hl⟩ ⟨rfl, c, hc, rfl⟩
    have hc' : al[i]? = some c := by
      rw [← hc]
      show al[i]? = al.toArray[i]?
      simp
    refine ⟨_, rfl, c, S small, rfl, by rw [small_eq], _, rfl, ?_⟩
    have hm : c ∈ small := mem_small (hA.lo c (List.mem_of_getElem? hc'))
    refine ite2 (fun e => ?_) (fun _ => ?_)
    · have e2 : decide (c ∈ (S small).cps.toList) = true := decide_eq_true hm
      rw [e2] at e
      cases e
    refine ⟨_, rfl, _, rfl, S [c], S l, rfl, rfl, _, rfl, ?_⟩
    refine ite2 (fun e => ?_) (fun _ => ?_)
    · have e2 : decide ((S l).cps.toList < (S [c]).cps.toList) = true := decide_eq_true (hl c hc')
      rw [e2] at e
      cases e
    refine ⟨_, rfl, [c], _, rfl, rfl, fun y hy => (single_lt c y).mpr ?_⟩
    obtain ⟨h1, e1⟩ := List.getElem?_eq_some_iff.mp hc'
    obtain ⟨h2, e2⟩ := List.getElem?_eq_some_iff.mp hy
    have := List.pairwise_iff_getElem.mp hA.asc i (i + 1) h1 h2 (by omega)
    omega
  · rintro σ H1 ⟨l, z, rfl, rfl, hl⟩
    exact ⟨_, rfl, q⟩
end
end W8

set_option Elab.async false
set_option linter.all false
set_option maxRecDepth 100000
set_option maxHeartbeats 4000000
namespace W8
open PySem L2
/-! ### plain data and their kinds -/
def tyN : PyData → String
  | .none => "NoneType"
  | .bool _ => "bool"
  | .int _ => "int"
  | .str _ => "str"
  | .list _ => "list"
  | .tuple _ => "tuple"
  | .dict _ => "dict"
/-- lists nested less than n deep, none of them too long -/
def okE : Nat → PyData → Prop
  | 0, _ => False
  | n + 1, .list es => es.length ≤ 100000 ∧ ∀ x ∈ es, okE n x
  | n + 1, .tuple es => es.length ≤ 100000 ∧ ∀ x ∈ es, okE n x
  | _ + 1, _ => True
abbrev okAll (n : Nat) (es : List PyData) : Prop := es.length ≤ 100000 ∧ ∀ x ∈ es, okE n x
theorem dpAll_get {K : PySem.W.Frag} {H : Hp} : ∀ {vs : List V} {ds : List PyData} {i : Nat} {d : PyData}, DpAll K H vs ds → ds[i]? = some d → ∃ v, vs[i]? = some v ∧ Dp K H v d
  | _, _, _, _, .nil, h => by cases h
  | _, _, 0, _, .cons h _, e => by cases e; exact ⟨_, rfl, h⟩
  | v :: vs, d' :: ds, i + 1, d, .cons _ t, e => by
    have e' : ds[i]? = some d := by simpa using e
    obtain ⟨y, h1, h2⟩ := dpAll_get t e'
    exact ⟨y, by simpa using h1, h2⟩
theorem dpAll_length {K : PySem.W.Frag} {H : Hp} : ∀ {vs : List V} {ds : List PyData}, DpAll K H vs ds → vs.length = ds.length
  | _, _, .nil => rfl
  | _, _, .cons _ t => by rw [List.length_cons, List.length_cons, dpAll_length t]
theorem dp_ty {K : PySem.W.Frag} {H : Hp} {v : V} {d : PyData} (h : Dp K H v d) : TyX K H v (.type (tyN d)) := by
  cases h with
  | non => exact .base .non
  | bl b => exact .base (.bl b)
  | int i => exact .base (.int i)
  | str x => exact .base (.str x)
  | lst h _ =>
    rcases h with (h | ⟨o, h⟩) | ⟨o, its, n, hk, hc, _⟩
    · exact .base (.lst h)
    · exact .base (.frz h)
    · exact .kList hk hc
  | tup h _ =>
    rcases h with (h | ⟨o, h⟩) | ⟨o, its, n, hk, hc, _⟩
    · exact .base (.tup h)
    · exact .fTuple h
    · exact .kTuple hk hc
mutual
theorem dp_mono {K : PySem.W.Frag} {H H' : Hp} (s : Same H H') : ∀ {v : V} {d : PyData}, Dp K H v d → Dp K H' v d
  | _, _, .non => .non
  | _, _, .bl b => .bl b
  | _, _, .int i => .int i
  | _, _, .str x => .str x
  | _, _, .lst h t => .lst (s.seq h) (dpAll_mono s t)
  | _, _, .tup h t => .tup (by
      rcases h with (h | ⟨o, h⟩) | h
      · exact .inl (.inl (s _ _ h))
      · exact .inl (.inr ⟨o, s _ _ h⟩)
      · exact .inr h) (dpAll_mono s t)
theorem dpAll_mono {K : PySem.W.Frag} {H H' : Hp} (s : Same H H') : ∀ {vs : List V} {ds : List PyData}, DpAll K H vs ds → DpAll K H' vs ds
  | _, _, .nil => .nil
  | _, _, .cons h t => .cons (dp_mono s h) (dpAll_mono s t)
end
def isBoolD : PyData → Bool
  | .bool _ => true
  | _ => false
def isIntD : PyData → Bool
  | .bool _ => true
  | .int _ => true
  | _ => false
def isStrD : PyData → Bool
  | .str _ => true
  | _ => false
def isListD : PyData → Bool
  | .list _ => true
  | _ => false
def isTupD : PyData → Bool
  | .tuple _ => true
  | _ => false
def kNames : List String := ["NoneType", "bool", "int", "str", "list", "tuple", "dict"]
theorem tyN_mem (d : PyData) : tyN d ∈ kNames := by cases d <;> (unfold tyN kNames; simp)
theorem kit_tab {K : PySem.W.Frag} {T : String} {f : String → Bool} (h : (kNames.all fun t => kitB t T == some (f t)) = true) {t : String} (ht : t ∈ kNames) : PySem.W.kitOne K (.type t) (.type T) = some (f t) :=
  kit_ty (beq_iff_eq.mp (List.all_eq_true.mp h t ht))
theorem kit_bool {K : PySem.W.Frag} (d : PyData) : PySem.W.kitOne K (.type (tyN d)) (.type "bool") = some (isBoolD d) := by
  have e := kit_tab (K := K) (T := "bool") (f := fun t => t == "bool") (by decide +kernel) (tyN_mem d)
  rw [e]; cases d <;> rfl
theorem kit_int {K : PySem.W.Frag} (d : PyData) : PySem.W.kitOne K (.type (tyN d)) (.type "int") = some (isIntD d) := by
  have e := kit_tab (K := K) (T := "int") (f := fun t => t == "int" || t == "bool") (by decide +kernel) (tyN_mem d)
  rw [e]; cases d <;> rfl
theorem kit_str {K : PySem.W.Frag} (d : PyData) : PySem.W.kitOne K (.type (tyN d)) (.type "str") = some (isStrD d) := by
  have e := kit_tab (K := K) (T := "str") (f := fun t => t == "str") (by decide +kernel) (tyN_mem d)
  rw [e]; cases d <;> rfl
theorem kit_list {K : PySem.W.Frag} (d : PyData) : PySem.W.kitOne K (.type (tyN d)) (.type "list") = some (isListD d) := by
  have e := kit_tab (K := K) (T := "list") (f := fun t => t == "list") (by decide +kernel) (tyN_mem d)
  rw [e]; cases d <;> rfl
theorem kit_tuple {K : PySem.W.Frag} (d : PyData) : PySem.W.kitOne K (.type (tyN d)) (.type "tuple") = some (isTupD d) := by
  have e := kit_tab (K := K) (T := "tuple") (f := fun t => t == "tuple") (by decide +kernel) (tyN_mem d)
  rw [e]; cases d <;> rfl
theorem isi_of {K : PySem.W.Frag} {H : Hp} {x : V} {d : PyData} {T : String} {b : Bool} {Q : VK} (h : Dp K H x d) (k : PySem.W.kitOne K (.type (tyN d)) (.type T) = some b) (q : Q (.bl b) H) : rIsi K [x, .ty T] H Q :=
  ⟨x, .ty T, _, _, _, rfl, .ty T, dp_ty h, k, q⟩
abbrev sSame : Stmt := top 60
theorem scSame : FnScope ["actual", "expected", "k"] ["actual", "expected"] (defScope sSame) := ⟨rfl, rfl, rfl, by decide +kernel, rfl, by decide +kernel, by decide +kernel⟩
def spSame (K : PySem.W.Frag) (n : Nat) : Sp := fun vs H Q _ => ∃ (x y : V) (d e : PyData), vs = [x, y] ∧ Dp K H x d ∧ Dp K H y e ∧ okE n e ∧ ∀ (b : Bool) H', Same H H' → (b = true ↔ d = e) → Q (.bl b) H'
structure SameT (mg : Str → Option Value) : Prop where
  isinstance : mg "isinstance" = none
  bool : mg "bool" = none
  int : mg "int" = none
  str : mg "str" = none
  list : mg "list" = none
  tuple : mg "tuple" = none
  len : mg "len" = none
  range : mg "range" = none
def SeqF (K : PySem.W.Frag) (H : Hp) (x : V) (xs : List V) : Prop := (∃ a, x = .ref a ∧ SqL K H a xs) ∨ (∃ a, x = .ref a ∧ SqT K H a xs)
theorem SeqF.ix {K : PySem.W.Frag} {H : Hp} {x v : V} {xs : List V} {i : Int} {Q : VK} (s : SeqF K H x xs) (h : atI xs i = some v) (q : Q v H) : rIx K x (.int i) H Q := by
  rcases s with ⟨a, rfl, s⟩ | ⟨a, rfl, s⟩
  · exact .inl ⟨a, xs, i, v, rfl, rfl, s, h, q⟩
  · exact .inr (.inl ⟨a, xs, i, v, rfl, rfl, s, h, q⟩)
theorem SeqF.mono {K : PySem.W.Frag} {H H' : Hp} {x : V} {xs : List V} (m : Same H H') (s : SeqF K H x xs) : SeqF K H' x xs := by
  rcases s with ⟨a, rfl, s⟩ | ⟨a, rfl, (h | ⟨o, h⟩) | h⟩
  · exact .inl ⟨a, rfl, m.seq s⟩
  · exact .inr ⟨a, rfl, .inl (.inl (m _ _ h))⟩
  · exact .inr ⟨a, rfl, .inl (.inr ⟨o, m _ _ h⟩)⟩
  · exact .inr ⟨a, rfl, .inr h⟩
theorem SeqF.len {K : PySem.W.Frag} {H : Hp} {x : V} {xs : List V} (s : SeqF K H x xs) : ∃ p, x = .ref p ∧ (SqL K H p xs ∨ SqT K H p xs) := by
  rcases s with ⟨a, rfl, s⟩ | ⟨a, rfl, s⟩
  · exact ⟨a, rfl, .inl s⟩
  · exact ⟨a, rfl, .inr s⟩
section
variable {P : Program} {w : World} {K : PySem.W.Frag} {mg : Str → Option Value} {base : Heap}
theorem same0 {f : Addr} {fd : FuncData} : FnOk P w K mg base CX0 0 f fd ["actual", "expected"] (spSame K 0) := by
  have no : ∀ vs H Q E, ¬ spSame K 0 vs H Q E := fun vs H Q E h => by
    obtain ⟨x, y, d, e, _, _, _, h, _⟩ := h
    exact h
  exact ⟨fun vs H Q E h => absurd h (no vs H Q E), fun A outer s H args us vs Q E _ _ _ _ h => absurd h (no vs H Q E)⟩
theorem sameS {n : Nat} {f : Addr} {fd : FuncData} (F : Fun K "_law_same" "_law_same" sSame f fd) (T : SameT mg) (c_law_same : Cal P w K mg base "_law_same" n ["actual", "expected"] (spSame K n)) : FnOk P w K mg base CX0 (n + 1) f fd ["actual", "expected"] (spSame K (n + 1)) := by
  refine F.ok scSame (fun vs H Q E h => ?_) (fun cdv A outer s H vs Q E hr h => ?_)
  · obtain ⟨x, y, d, e, rfl, _⟩ := h
    rfl
  obtain ⟨x, y, d, e, rfl, hx, hy, hn, q⟩ := h
  refine ⟨_, (pss_cons (ps_if (pt_cmpR op_isN (pv 1) pe_non (nomark _)) (pss_one (ps_ret (pe_cmpR op_isN (pv 0) pe_non (nomark _)))) pss_nil)
    (pss_cons (ps_if (pt_val (pe_callB call_isi (by rfl) T.isinstance (by decide +kernel) (pa_cons (pv 1) (pa_cons (pe_bltn (v := .ty "bool") (by rfl) T.bool (by decide +kernel) rfl) pa_nil))))
      (pss_one (ps_ret (pe_and (pe_callB call_isi (by rfl) T.isinstance (by decide +kernel) (pa_cons (pv 0) (pa_cons (pe_bltn (v := .ty "bool") (by rfl) T.bool (by decide +kernel) rfl) pa_nil))) (pe_one (pe_cmpR op_eq (pv 0) (pv 1) (nomark _)))))) pss_nil)
    (pss_cons (ps_if (pt_val (pe_callB call_isi (by rfl) T.isinstance (by decide +kernel) (pa_cons (pv 1) (pa_cons (pe_bltn (v := .ty "int") (by rfl) T.int (by decide +kernel) rfl) pa_nil))))
      (pss_one (ps_ret (pe_and (pe_callB call_isi (by rfl) T.isinstance (by decide +kernel) (pa_cons (pv 0) (pa_cons (pe_bltn (v := .ty "int") (by rfl) T.int (by decide +kernel) rfl) pa_nil))) (pe_and (pe_not (pe_callB call_isi (by rfl) T.isinstance (by decide +kernel) (pa_cons (pv 0) (pa_cons (pe_bltn (v := .ty "bool") (by rfl) T.bool (by decide +kernel) rfl) pa_nil)))) (pe_one (pe_cmpR op_eq (pv 0) (pv 1) (nomark _))))))) pss_nil)
    (pss_cons (ps_if (pt_val (pe_callB call_isi (by rfl) T.isinstance (by decide +kernel) (pa_cons (pv 1) (pa_cons (pe_bltn (v := .ty "str") (by rfl) T.str (by decide +kernel) rfl) pa_nil))))
      (pss_one (ps_ret (pe_and (pe_callB call_isi (by rfl) T.isinstance (by decide +kernel) (pa_cons (pv 0) (pa_cons (pe_bltn (v := .ty "str") (by rfl) T.str (by decide +kernel) rfl) pa_nil))) (pe_one (pe_cmpR op_eq (pv 0) (pv 1) (nomark _)))))) pss_nil)
    (C8.pss_cut (ps_if (PW.pt (pw_and (pt_val (pe_callB call_isi (by rfl) T.isinstance (by decide +kernel) (pa_cons (pv 1) (pa_cons (pe_bltn (v := .ty "list") (by rfl) T.list (by decide +kernel) rfl) pa_nil)))) (pw_and1 (pt_not (pt_val (pe_callB call_isi (by rfl) T.isinstance (by decide +kernel) (pa_cons (pv 0) (pa_cons (pe_bltn (v := .ty "list") (by rfl) T.list (by decide +kernel) rfl) pa_nil))))))))
      (pss_one (ps_ret pe_bl)) pss_nil)
    (C8.pss_cut (ps_if (PW.pt (pw_and (pt_val (pe_callB call_isi (by rfl) T.isinstance (by decide +kernel) (pa_cons (pv 1) (pa_cons (pe_bltn (v := .ty "tuple") (by rfl) T.tuple (by decide +kernel) rfl) pa_nil)))) (pw_and1 (pt_not (pt_val (pe_callB call_isi (by rfl) T.isinstance (by decide +kernel) (pa_cons (pv 0) (pa_cons (pe_bltn (v := .ty "tuple") (by rfl) T.tuple (by decide +kernel) rfl) pa_nil))))))))
      (pss_one (ps_ret pe_bl)) pss_nil)
    (pss_cons (ps_if (pt_cmpR op_ne (pB1 call_len_seq T.len (pv 0)) (pB1 call_len_seq T.len (pv 1)) (nomark _)) (pss_one (ps_ret pe_bl)) pss_nil)
    (pss_cons (ps_for PassesOwn.never rfl (pi_range1 (by rfl) T.range (pa_cons (pB1 call_len_seq T.len (pv 1)) pa_nil)) (pg_name (i := 2) scSame.nd rfl (Or.inl rfl))
      (pss_one (ps_if (pt_not (pt_val (pcall c_law_same hr (pa_cons (pe_ix ix_seq (pv 0) (pv 2) (fun _ _ => rfl)) (pa_cons (pe_ix ix_seq (pv 1) (pv 2) (fun _ _ => rfl)) pa_nil)) (hk := Nat.le_refl _)))) (pss_one (ps_ret pe_bl)) pss_nil)))
    (pss_one (ps_ret pe_bl)))))))))), ?_⟩
  -- if expected is None
  refine ⟨_, rfl, rfl, _, rfl, ?_⟩
  refine ite2 (fun c => ?_) (fun c0 => ?_)
  · have ey : y = .non := of_decide_eq_true c
    subst ey
    cases hy
    refine ⟨_, rfl, rfl, q _ H (Same.refl H) ?_⟩
    cases hx <;> simp
  -- isinstance(expected, bool)
  refine ⟨_, rfl, _, _, _, _, _, rfl, .ty _, dp_ty hy, kit_bool e, _, rfl, ?_⟩
  refine ite2 (fun c => ?_) (fun c1 => ?_)
  · cases hy <;> first | (cases c; done) | skip
    refine ⟨_, rfl, _, _, _, _, _, rfl, .ty _, dp_ty hx, kit_bool d, _, rfl, ?_⟩
    refine ite2 (fun c2 => ?_) (fun c2 => ?_)
    · cases hx <;> first | (cases c2; done) | skip
      refine ⟨_, rfl, _, rfl, rfl, q _ H (Same.refl H) ?_⟩
      rw [decide_eq_true_eq]
      constructor
      · intro h; injection h with h; rw [h]
      · intro h; injection h with h; rw [h]
    · refine q _ H (Same.refl H) ⟨fun z => (nomatch z), fun z => absurd (by rw [z]; rfl) c2⟩
  -- isinstance(expected, int)
  refine ⟨_, rfl, _, _, _, _, _, rfl, .ty _, dp_ty hy, kit_int e, _, rfl, ?_⟩
  refine ite2 (fun c => ?_) (fun c3 => ?_)
  · cases hy <;> first | (cases c; done) | (exact absurd rfl c1) | skip
    refine ⟨_, rfl, _, _, _, _, _, rfl, .ty _, dp_ty hx, kit_int d, _, rfl, ?_⟩
    refine ite2 (fun c2 => ?_) (fun c2 => ?_)
    · refine ⟨_, rfl, _, _, _, _, _, rfl, .ty _, dp_ty hx, kit_bool d, _, rfl, _, rfl, ?_⟩
      refine ite2 (fun c4 => ?_) (fun c4 => ?_)
      · cases hx <;> first | (cases c2; done) | (cases c4; done) | skip
        refine ⟨_, rfl, _, rfl, rfl, q _ H (Same.refl H) ?_⟩
        rw [decide_eq_true_eq]
        constructor
        · intro h; injection h with h; rw [h]
        · intro h; injection h with h; rw [h]
      · refine q _ H (Same.refl H) ⟨fun z => (nomatch z), fun z => absurd (by rw [z]; rfl) c4⟩
    · refine q _ H (Same.refl H) ⟨fun z => (nomatch z), fun z => absurd (by rw [z]; rfl) c2⟩
  -- isinstance(expected, str)
  refine ⟨_, rfl, _, _, _, _, _, rfl, .ty _, dp_ty hy, kit_str e, _, rfl, ?_⟩
  refine ite2 (fun c => ?_) (fun c5 => ?_)
  · cases hy <;> first | (cases c; done) | skip
    refine ⟨_, rfl, _, _, _, _, _, rfl, .ty _, dp_ty hx, kit_str d, _, rfl, ?_⟩
    refine ite2 (fun c2 => ?_) (fun c2 => ?_)
    · cases hx <;> first | (cases c2; done) | skip
      refine ⟨_, rfl, _, rfl, rfl, q _ H (Same.refl H) ?_⟩
      rw [decide_eq_true_eq]
      constructor
      · intro h; injection h with h; rw [h]
      · intro h; injection h with h; rw [h]
    · refine q _ H (Same.refl H) ⟨fun z => (nomatch z), fun z => absurd (by rw [z]; rfl) c2⟩
  -- lists and tuples
  refine ⟨fun σ' H' => σ' = [some x, some y, none] ∧ H' = H ∧ (isListD e = true → isListD d = true), ?_, ?_⟩
  · refine ⟨_, rfl, _, _, _, _, _, rfl, .ty _, dp_ty hy, kit_list e, _, rfl, ?_⟩
    refine ite2 (fun c6 => ?_) (fun c6 => ?_)
    · refine ⟨_, rfl, _, _, _, _, _, rfl, .ty _, dp_ty hx, kit_list d, _, rfl, ?_⟩
      refine ite2 (fun c7 => ?_) (fun c7 => ?_)
      · refine q _ H (Same.refl H) ⟨fun z => (nomatch z), fun z => ?_⟩
        rw [z, c6] at c7
        cases c7
      · refine ⟨rfl, rfl, fun _ => ?_⟩
        cases h : isListD d with
        | true => rfl
        | false => exact absurd (by rw [h]; rfl) c7
    · refine ite2 (fun z => (nomatch z)) (fun _ => ?_)
      exact ⟨rfl, rfl, fun z => absurd z c6⟩
  rintro σ' H' ⟨rfl, rfl, hl⟩
  refine ⟨fun σ' H'' => σ' = [some x, some y, none] ∧ H'' = H' ∧ (isTupD e = true → isTupD d = true), ?_, ?_⟩
  · refine ⟨_, rfl, _, _, _, _, _, rfl, .ty _, dp_ty hy, kit_tuple e, _, rfl, ?_⟩
    refine ite2 (fun c6 => ?_) (fun c6 => ?_)
    · refine ⟨_, rfl, _, _, _, _, _, rfl, .ty _, dp_ty hx, kit_tuple d, _, rfl, ?_⟩
      refine ite2 (fun c7 => ?_) (fun c7 => ?_)
      · refine q _ H' (Same.refl H') ⟨fun z => (nomatch z), fun z => ?_⟩
        rw [z, c6] at c7
        cases c7
      · refine ⟨rfl, rfl, fun _ => ?_⟩
        cases h : isTupD d with
        | true => rfl
        | false => exact absurd (by rw [h]; rfl) c7
    · refine ite2 (fun z => (nomatch z)) (fun _ => ?_)
      exact ⟨rfl, rfl, fun z => absurd z c6⟩
  rintro σ' H'' ⟨rfl, rfl, ht⟩
  obtain ⟨xs, ys, ds, es, sx, sy, ax, ay, hde, hok⟩ : ∃ (xs ys : List V) (ds es : List PyData), SeqF K H'' x xs ∧ SeqF K H'' y ys ∧ DpAll K H'' xs ds ∧ DpAll K H'' ys es ∧ (ds = es ↔ d = e) ∧ okAll n es := by
    cases hy with
    | non => exact absurd (decide_eq_true rfl) c0
    | bl b => exact absurd rfl c1
    | int i => exact absurd rfl c3
    | str z => exact absurd rfl c5
    | lst h1 h2 =>
      have h := hl rfl
      cases hx <;> first | (cases h; done) | skip
      rename_i h3 h4
      exact ⟨_, _, _, _, .inl ⟨_, rfl, h3⟩, .inl ⟨_, rfl, h1⟩, h4, h2, ⟨fun z => by rw [z], fun z => by injection z⟩, hn⟩
    | tup h1 h2 =>
      have h := ht rfl
      cases hx <;> first | (cases h; done) | skip
      rename_i h3 h4
      exact ⟨_, _, _, _, .inr ⟨_, rfl, h3⟩, .inr ⟨_, rfl, h1⟩, h4, h2, ⟨fun z => by rw [z], fun z => by injection z⟩, hn⟩
  have lx := dpAll_length ax
  have ly := dpAll_length ay
  obtain ⟨p1, e1, l1⟩ := sx.len
  obtain ⟨p2, e2, l2⟩ := sy.len
  refine ⟨_, rfl, p1, xs, by rw [e1], l1, _, rfl, p2, ys, by rw [e2], l2, rfl, _, rfl, ?_⟩
  refine ite2 (fun c => ?_) (fun c => ?_)
  · refine q _ H'' (Same.refl H'') ⟨fun z => (nomatch z), fun z => ?_⟩
    have hl2 : xs.length = ys.length := by rw [lx, ly, hde.mpr z]
    rw [hl2, decide_eq_true rfl] at c
    cases c
  have hlen : xs.length = ys.length := by
    by_cases h : xs.length = ys.length
    · exact h
    · refine absurd ?_ c
      have : decide (V.int (xs.length : Int) = V.int (ys.length : Int)) = false := decide_eq_false (fun z => h (by injection z with z; omega))
      rw [this]
      rfl
  have hbig := hok.1
  refine ⟨_, rfl, p2, ys, by rw [e2], l2, _, rfl, by omega, by omega, ?_⟩
  have en : ((ys.length : Int)).toNat = es.length := by omega
  rw [en]
  refine for_range (lo := 0) (n := es.length) (fun i σ H' => ∃ k : Option V, σ = [some x, some y, k] ∧ Same H'' H' ∧ ∀ j, j < i → ds[j]? = es[j]?) ⟨none, rfl, Same.refl _, fun j h => absurd h (by omega)⟩ ?_ ?_
  · rintro i σ H1 hi ⟨k, rfl, s1, hall⟩
    have hid : ds[i]? = some (ds[i]'(by omega)) := List.getElem?_eq_getElem (by omega)
    have hie : es[i]? = some es[i] := List.getElem?_eq_getElem hi
    obtain ⟨v1, hv1, hd1⟩ := dpAll_get ax hid
    obtain ⟨v2, hv2, hd2⟩ := dpAll_get ay hie
    have a1 : atI xs (0 + (i : Int)) = some v1 := by rw [Int.zero_add]; exact atI_nat hv1
    have a2 : atI ys (0 + (i : Int)) = some v2 := by rw [Int.zero_add]; exact atI_nat hv2
    refine ⟨_, rfl, _, rfl, (sx.mono s1).ix a1 ⟨_, rfl, _, rfl, (sy.mono s1).ix a2 ⟨v1, v2, ds[i], es[i], rfl, dp_mono s1 hd1, dp_mono s1 hd2, hok.2 _ (List.getElem_mem hi), fun b H2 s2 hb => ⟨_, rfl, ?_⟩⟩⟩⟩
    refine ite2 (fun c => ?_) (fun c => ?_)
    · refine q _ H2 (s1.trans s2) ⟨fun z => (nomatch z), fun z => ?_⟩
      have : b = true := hb.mpr (by
        have hz := hde.mpr z
        have : ds[i]? = es[i]? := by rw [hz]
        rw [hid, hie] at this
        exact Option.some.inj this)
      rw [this] at c
      cases c
    · have hbt : b = true := by
        cases b with
        | true => rfl
        | false => exact absurd rfl c
      refine ⟨_, rfl, s1.trans s2, fun j hj => ?_⟩
      by_cases e : j = i
      · rw [e, hid, hie, hb.mp hbt]
      · exact hall j (by omega)
  · rintro σ H1 ⟨k, rfl, s1, hall⟩
    refine q true H1 s1 ⟨fun _ => hde.mp (List.ext_getElem? fun j => ?_), fun _ => rfl⟩
    by_cases hj : j < es.length
    · exact hall j hj
    · rw [List.getElem?_eq_none (by omega), List.getElem?_eq_none (by omega)]
end
end W8

set_option Elab.async false
set_option linter.all false
set_option maxRecDepth 100000
set_option maxHeartbeats 4000000
/-! an own exception whose __init__ says super().__init__(text) and stores one field -/
namespace PySem
namespace XM
open PySem.W PySem.Calls PyProof.Rows
def xA (f : Str) (p1 p2 : Pos) : Arguments := { posonlyargs := [], args := [{ arg := "self", annotation := none, pos := p1 }, { arg := f, annotation := none, pos := p2 }], vararg := none, kwonlyargs := [], kw_defaults := [], kwarg := none, defaults := [] }
def xB (f msg : Str) (j : Nat) (p0 p1 p2 p3 p4 p5 q1 q2 q3 q4 : Pos) : List Stmt := [.Expr (.Call (.Attribute (.Call (.Name "super" p0) [] [] p1) "__init__" p2) [.Constant (.str msg) j p3] [] p4) p5, .Assign [.Attribute (.Name "self" q1) f q2] (.Name f q3) q4]
def xS (f : Str) : Scope := { kind := .function, names := [(PySem.Str.ofString "self", .local), (f, .local), (PySem.Str.ofString "__class__", .free), (PySem.Str.ofString "super", .globalImplicit)], isGenerator := false, isCoroutine := false, more := [] }
/-- what is written of such a class: C, D the class that has the __init__ fI -/
structure XmC (prog : Program) (K : Frag) (C D fI : Addr) (f : Str) : Prop where
  cls : ∃ nm q N bs bm sn sub ab col dd k0 k1 k2 k3 k5, K.lookup C = some (excClassObj nm q C N bs bm true sn sub ab col dd k0 k1 k2 k3 k5 "ValueError.__new__") ∧ HandSPX.refsVE bm = true
  sa : findIn K (.ref C) "__setattr__" = some (some (.builtin "object.__setattr__"))
  noF : findIn K (.ref C) f = some none
  iC : findIn K (.ref C) "__init__" = some (some (.ref fI))
  tI : typeIn K (.ref fI) = some (.type "function")
  kC : keepIn K (.ref C) = true
  exC : subIn K (.ref C) (.type "BaseException") = some true
  vC : subIn K (.ref C) (.type "ValueError") = some true
  tyC : typeIn K (.ref C) = some (.type "type")
  fn : ∃ (cc cda : Addr) (oc doc pm ct : Value) (od an : Option Addr) (osl : Array (Option Value)) (qual msg : Str) (j : Nat) (p0 p1 p2 p3 p4 p5 q1 q2 q3 q4 r1 r2 : Pos),
    K.lookup fI = some ⟨oc, od, .func (ksFn "__init__" qual (xA f r1 r2) (xB f msg j p0 p1 p2 p3 p4 p5 q1 q2 q3 q4) (xS f) .none .none doc pm an (.ref cda) ct cc), osl⟩ ∧ codeIn K (.ref cda) qual = true ∧ (p2.endLine == p4.line) = true ∧
      (∃ ccl cdd vs ccs file tf, K.lookup cda = some ⟨ccl, cdd, .fields vs, ccs⟩ ∧ vs[2]? = some (.str file tf) ∧ ((prog.main.file : Str) == file) = true) ∧
      (∃ cl cld csl, K.lookup cc = some ⟨cl, cld, .cell (some (.ref D)), csl⟩)
  nf : f = "index" ∨ f = "state" ∨ f = "limit" ∨ f = "name" ∨ f = "names" ∨ f = "line" ∨ f = "row"
  bd : ∀ (qual msg : Str) (j : Nat) (p0 p1 p2 p3 p4 p5 q1 q2 q3 q4 r1 r2 : Pos) (doc pm ct : Value) (an : Option Addr) (cc cda : Addr) (s : Shared) (u v : Value), BindsTo s (ksFn "__init__" qual (xA f r1 r2) (xB f msg j p0 p1 p2 p3 p4 p5 q1 q2 q3 q4) (xS f) .none .none doc pm an (.ref cda) ct cc) ⟨[u, v], []⟩ [("self", u), (f, v)]
  clD : ∃ cdD, clsIn K D = some cdD
  subD : mroIn K C (.ref D) = some true
  sup : ks_superIn K C D "__init__" = some (some (.builtin "ValueError.__init__"))
  thi : nsIn K cStatics "thirdparty.any" = some none
  top : (prog.main.scope.names.lookup ("super" : Str)).isSome = false
theorem eval_meth {o : Expr} {name : Str} {apos pos : Pos} {e : Expr} {env : Env} (hp : (apos.endLine == pos.line) = true) (hs : starEach [e] env = [(false, eval e env)] := by rfl) :
    eval (.Call (.Attribute o name apos) [e] [] pos) env = (do
      let ov ← attributeBase o name env (eval o env)
      standAt apos.atName
      let (f, first) ← holding [ov] (getMethod ov name (do return (← importBound o env).getD true))
      callWith pos f first (backTo pos (starEach [e] env)) []) := by
  have hc : ∀ a k, (!methodCallForm 1 a k || apos.endLine == pos.line) = true := fun a k => by rw [hp]; simp
  show (do
    let ov ← attributeBase o name env (eval o env)
    standAt apos.atName
    methodCall o name apos pos env ov 1 (backTo pos (starEach [e] env)) []) = _
  unfold methodCall methodCallPos
  simp only [hc, if_true]
  rw [hs]
  rfl
theorem cls_at {K : Frag} {h : Heap} {D : Addr} {cd : ClassData} (X : K.In h) (hD : clsIn K D = some cd) : ∃ oD, h.get? D = some oD ∧ oD.data = .cls cd := by
  unfold clsIn at hD
  split at hD
  · rename_i c d cd' sl ho
    cases hD
    exact ⟨_, X _ _ ho, rfl⟩
  · cases hD
theorem spliced1 {M : Model} {A : Around} {E : Value → Shared → Prop} {s : Shared} {t : Sem Value} {Q : List Value → Shared → Prop} {pos : Pos} (h : wpAny M A t (fun v s1 => Q [v] s1) E s) : wpAny M A (spliced (backTo pos [(false, t)])) Q E s := by
  refine Calls.spliced_cons (wpAny_mono h (fun v s1 q => ?_) fun _ _ x => x)
  exact Calls.spliced_nil q
theorem kept_but {K : Frag} {h h' : Heap} {x : Addr} (X : K.In h) (hx : K.lookup x = none) (k : ∀ b o, b ≠ x → h.get? b = some o → h'.get? b = some o) : K.In h' := fun a o e =>
  k a o (fun z => by rw [z, hx] at e; cases e) (X a o e)
theorem ldX {M : Model} {A : Around} {E : Value → Shared → Prop} {s : Shared} {env : Env} {m : Str → Option Value} {x : Str} {pos : Pos} {v : Value} {Q : Value → Shared → Prop} (hn : s.heap.Ns env.locals m) (hv : m x = some v) (h : Q v s)
    (hk : env.scope.kind = .function := by rfl) (hl : env.kindOf x = some .local := by rfl) (hd : (x == ("__debug__" : Str)) = false := by decide) : wpAny M A (eval (.Name x pos) env) Q E s := wpAny_Name (wpAny_loadName_local hk hl hn hv h) hd
theorem str_eval {M : Model} {A : Around} {E : Value → Shared → Prop} {s : Shared} {env : Env} {m : Str} {j : Nat} {p : Pos} {Q : Value → Shared → Prop} (h : ∀ t tk, Q (.str m t) { s with toks := tk }) : wpAny M A (eval (.Constant (.str m) j p) env) Q E s := by
  exact wpAny_Constant_str (h _ _)
section
variable {prog : Program} {w : World} {A : Around} {R : Result → Shared → Prop} {s : Shared} {K : Frag} {mg mb : Str → Option Value} {C D fI : Addr} {f : Str}
theorem call_bv {u e t0 : Addr} {nm q : Str} {N : Addr} {bs bm : List Value} {hdct : Bool} {sn : List Str} {sub : List Value} {ab : Bool} {col : Option Bool} {dd : Option Addr} {k0 k1 k2 k3 k5 : Option Value} {rest : List Value} {Q : Value → Shared → Prop} {E : Value → Shared → Prop} {h : Heap} {g : Array GenState} {d : Drawn} {t : Nat} {os : OsState}
    (hC : h.get? C = some (excClassObj nm q C N bs bm hdct sn sub ab col dd k0 k1 k2 k3 k5 "ValueError.__new__")) (he : h.get? e = some (HandSPX.excO C t0)) (hu : h.get? u = some (kxs_mw "ValueError.__init__" e)) (hrest : rest.length ≤ sizeLine)
    (hq : ∀ h' t1, (∀ b o, b ≠ e → h.get? b = some o → h'.get? b = some o) → h'.get? e = some (HandSPX.excO C t1) → Q .none ⟨h', g, d, t, os⟩) :
    wpAny (model prog w) A (call (.ref u) rest) Q E ⟨h, g, d, t, os⟩ := by
  refine wpAny_call (codeAny_of_tree ?_)
  show wpAny _ A.in1 (callAny (.ref u) ⟨rest, []⟩) _ _ _
  simp only [callAny]
  refine wpAny_bind (wpAny_load hu ?_)
  simp only [kxs_mw, show (Value.type "method-wrapper" == Value.type "method" || Value.type "method-wrapper" == Value.type "builtin_function_or_method" || Value.type "method-wrapper" == Value.type "method-wrapper") = true by decide, if_true]
  refine KFB.if_so (by decide) ?_
  refine wpAny_bind (check_bound_init F.excBase_ValueError.toExcCallFacts hC he rfl ?_)
  refine wpAny_bind (wpAny_pure (wpAny_pure ?_))
  refine ⟨plainId_quiet F.excBase_ValueError.init.plain _, codeAny_builtin F.excBase_ValueError.initEntry ?_⟩
  exact exc_init_tree (cls := .ref C) (t0 := t0) (dv := none) (c2 := .none) (c3 := .none) (b4 := .bool false) he hrest fun h' k e' _ => hq h' _ k e'
/-- what __init__ leaves of a fresh exception at x -/
structure InitEnd (h h' : Heap) (x C dx t1 : Addr) (f : Str) (v : Value) : Prop where
  keep : ∀ b o, b ≠ x → h.get? b = some o → h'.get? b = some o
  obj : h'.get? x = some { cls := .ref C, dict := some dx, data := .fields #[.ref t1, .none, .none, .none, .bool false, .none] }
  dbig : h.objs.size ≤ dx
  dne : dx ≠ x
  ns : h'.Ns1 dx (fun y => if y = f then some v else none)
theorem own_init (T : XmC prog K C D fI f) {x t0 : Addr} {v : Value} (X : K.In s.heap) (hlim : s.heap.NoLimit) (hg : s.heap.Ns mainGlobals mg) (hb : s.heap.Ns builtinsNs mb) (hms : mg "super" = none) (hbs : mb "super" = bootBuiltins "super")
    (hx : s.heap.get? x = some (HandSPX.excO C t0)) (hnx : K.lookup x = none) (hroom : A.depth < recursionLimit)
    (hq : ∀ h' tk dx t1, InitEnd s.heap h' x C dx t1 f v → R (.ok (.ret .none)) { s with heap := h', toks := tk }) :
    codeAny (model prog w) A (.call (.ref fI) ⟨[.ref x, v], []⟩) R s := by
  obtain ⟨cc, cda, oc, doc, pm, ct, od, an, osl, qual, msg, j, p0, p1, p2, p3, p4, p5, q1, q2, q3, q4, r1, r2, hf, hcd, hpos, ⟨ccl, cdd, vs, ccs, file, tf, hcode, hvs, hfile⟩, ⟨cl, cld, csl, hcc⟩⟩ := T.fn
  obtain ⟨nm, q, N, bs, bm, sn, sub, ab, col, dd, k0, k1, k2, k3, k5, hC, hbm⟩ := T.cls
  obtain ⟨cdD, hD⟩ := T.clD
  have nf := T.nf
  have hcl : clsIn K C = some { name := nm, bases := bs, mro := .ref C :: bm, ns := N, qualname := q, hasDict := true, slotNames := sn, subclasses := sub, abstract := ab, collection := col, hasDel := false } := by unfold clsIn; rw [hC] <;> rfl
  rcases nf with rfl | rfl | rfl | rfl | rfl | rfl | rfl
  all_goals
    refine ks_codeAny_call_defAt (binds := [("self", .ref x), (_, v)]) hroom (X _ _ hf) rfl hlim (codeRec_of X hcd) rfl (T.bd qual msg j p0 p1 p2 p3 p4 p5 q1 q2 q3 q4 r1 r2 doc pm ct an cc cda s (.ref x) v) (by show ∀ y ∈ (xS _).names, y.2 ≠ .cell; decide) (fun y hy => ?_) (fun h₁ hns hk₁ => ?_)
    · rcases List.mem_cons.mp hy with rfl | hy
      · rfl
      · rw [List.mem_singleton.mp hy]
        rfl
    have X₁ : K.In h₁ := X.keeps hk₁
    have hx₁ := hk₁ _ _ hx
    have hxL : s.heap.objs.size ≠ x := Nat.ne_of_gt (Heap.lt_size hx)
    have z0 : s.heap.objs.size < h₁.objs.size := hns.lt
    refine ks_wpAt_execs_cons (ks_wpAt_Expr_any (ks_wpAt_MethodCall ?_ (eval_meth hpos)))
    -- super()
    refine ks_wpAt_super_base rfl rfl (by decide +kernel) rfl (X₁ _ _ hf) rfl rfl rfl (X₁ _ _ hcode) rfl hvs hfile T.top ?_
    refine ks_loadName_global rfl rfl (loadGlobal_builtin (hg.keeps hk₁) hms (hb.keeps hk₁) (hbs.trans (by first | rfl | decide +kernel)) ⟨rfl, ?_⟩)
    refine wpAny_loadName_free rfl rfl rfl ⟨_, X₁ _ _ hcc, rfl⟩ ?_
    refine wpAny_loadName_local (v := .ref x) rfl rfl hns (by first | rfl | with_unfolding_all rfl | kernel_rfl) ?_
    obtain ⟨oD, hD1, hD2⟩ := cls_at X₁ hD
    refine ks_wpAny_isType_cls hD1 hD2 ⟨rfl, ?_⟩
    refine ks_wpAny_call_super hD1 hD2 hx₁ rfl (fun c e => by cases e) (looks_mroIn X₁ T.subD) (fun h₂ e k => ?_)
    -- .__init__
    have X₂ : K.In h₂ := X₁.keeps k
    have I₂ : InstAt h₂ x (HandSPX.excO C t0) C none := ⟨k _ _ hx₁, rfl, rfl, trivial⟩
    have hmro := looks_clsIn (M := model prog w) X₂ hcl
    have hsup := T.sup
    unfold ks_superIn at hsup
    rw [hcl] at hsup
    refine kxs_getMethod kxs_ValueError e (looks_opaque X₂ T.thi) (l₀ := .ref C :: bm) (fun A Q E s k q => wpAny_bind (hmro A _ E s k (wpAny_pure q))) rfl X₂ hsup (I₂.type.andThen (looks_subIn X₂ T.vC)) (ks_ne X₂ I₂ hcl) (by decide +kernel) ?_
    refine kxs_callWith (i := "ValueError.__init__") (x := x) rfl ?_
    refine evalArgs_plain (spliced1 (str_eval fun tok tk => ?_))
    have u2 : (h₂.push (kxs_mw "ValueError.__init__" x)).get? h₂.objs.size = some (kxs_mw "ValueError.__init__" x) := Heap.get?_push_at rfl rfl
    refine ⟨u2, ?_⟩
    refine call_bv (X₂.keeps (fun b o q => Heap.get?_push_of_some _ q) _ _ hC) (Heap.get?_push_of_some _ (k _ _ hx₁)) u2 (by rw [sizeLine_eq]; exact (by decide : 1 ≤ 16777216)) fun h₃ t1 k₃ e₃ => ?_
    have hk₃ : ∀ b o, b ≠ x → s.heap.get? b = some o → h₃.get? b = some o := fun b o hb q => k₃ b o hb (Heap.get?_push_of_some _ (k _ _ (hk₁ _ _ q)))
    have X₃ : K.In h₃ := kept_but X₂ hnx fun b o hb q => k₃ b o hb (Heap.get?_push_of_some _ q)
    have hn₃ : h₃.Ns s.heap.objs.size _ := hns.at (fun o q => k₃ _ _ hxL (Heap.get?_push_of_some _ (k _ _ q)))
    show wpAt _ _ _ (execs _ _) _ _ _
    refine ks_wpAt_execs_cons (ks_wpAt_Assign_Attr ?_)
    refine wpAt_of_wpAny (ldX (v := v) hn₃ (by first | rfl | with_unfolding_all rfl | kernel_rfl) ?_)
    refine ldX (v := .ref x) hn₃ (by first | rfl | with_unfolding_all rfl | kernel_rfl) ?_
    refine set_plain X₃ (ox := HandSPX.excO C t1) (od := none) ⟨e₃, rfl, rfl, trivial⟩ T.sa ?_
    refine HandSPX.exc_osa X₃ e₃ hcl (show HandSPX.refsVE (.ref C :: bm) = true from hbm) rfl T.noF (fun h₄ tk₄ dx k₄ dn dne hx₄ hn₄ => ?_)
    have z2 : s.heap.objs.size ≤ dx := by
      obtain ⟨oL, _, _, hL, _⟩ := hn₃
      exact Nat.le_of_lt (Nat.lt_of_lt_of_le (Heap.lt_size hL) dn)
    exact wpAt_of_wpAny (wpAny_execs_nil (hq h₄ tk₄ dx t1 ⟨fun b o hb q => k₄ b o hb (hk₃ b o hb q), hx₄, z2, dne, hn₄⟩))
/-- a made one -/
structure OwnMade (h h' : Heap) (e C d : Addr) (f : Str) (v : Value) : Prop where
  keep : ∀ b o, h.get? b = some o → h'.get? b = some o
  new : h.objs.size ≤ e
  obj : ∃ oe vs, h'.get? e = some oe ∧ oe.cls = .ref C ∧ oe.dict = some d ∧ oe.data = .fields vs ∧ vs[1]? = some .none ∧ vs[2]? = some .none
  dbig : h.objs.size ≤ d
  dne : d ≠ e
  ns : h'.Ns1 d (fun y => if y = f then some v else none)
theorem own_made (T : XmC prog K C D fI f) {v : Value} (X : K.In s.heap) (hlim : s.heap.NoLimit) (hg : s.heap.Ns mainGlobals mg) (hb : s.heap.Ns builtinsNs mb) (hms : mg "super" = none) (hbs : mb "super" = bootBuiltins "super") (hroom : A.depth + 1 < recursionLimit)
    (hq : ∀ h' tk e d, OwnMade s.heap h' e C d f v → R (.ok (.ret (.ref e))) { s with heap := h', toks := tk }) :
    codeAny (model prog w) A (.call (.ref C) ⟨[v], []⟩) R s := by
  obtain ⟨nm, q, N, bs, bm, sn, sub, ab, col, dd, k0, k1, k2, k3, k5, hC, hbm⟩ := T.cls
  obtain ⟨hp, g, dr, tk, os⟩ := s
  have k : ∀ b o, hp.get? b = some o → ((hp.push (kdv_tup [v])).push (HandSPX.excO C hp.objs.size)).get? b = some o := fun b o e => Heap.get?_push_of_some _ (Heap.get?_push_of_some _ e)
  have hget : ((hp.push (kdv_tup [v])).push (HandSPX.excO C hp.objs.size)).get? (hp.objs.size + 1) = some (HandSPX.excO C hp.objs.size) := by heap_get
  have hnx : K.lookup (hp.objs.size + 1) = none := by
    cases e : K.lookup (hp.objs.size + 1) with
    | none => rfl
    | some o =>
      have z : hp.get? (hp.objs.size + 1) = some o := X _ _ e
      exact absurd (Nat.lt_of_succ_lt (Heap.lt_size z)) (Nat.lt_irrefl _)
  refine HandSPX.call_own F.excBase_ValueError (fun X => HandSPX.refsVE_contains X bm hbm) (X _ _ hC) (looks_findIn X T.iC) (fun self => bind_fn X self T.tI) (by rw [sizeLine_eq]; exact (by decide : 1 ≤ 16777216)) ?_
  refine own_init (s := ⟨(hp.push (kdv_tup [v])).push (HandSPX.excO C hp.objs.size), g, dr, tk, os⟩) T (X.keeps k) (hlim.keeps k) (hg.keeps k) (hb.keeps k) hms hbs hget hnx ?_ fun h' tk' dx t1 ⟨k', hx, dn, dne, hns⟩ => ?_
  · show A.depth + 1 < recursionLimit
    exact hroom
  · have old : ∀ b o, hp.get? b = some o → h'.get? b = some o := fun b o e => k' b o (Nat.ne_of_lt (Nat.lt_succ_of_lt (Heap.lt_size e))) (k b o e)
    have z : hp.objs.size + 1 + 1 ≤ dx := by
      first
        | (simpa only [Heap.size_push] using dn)
        | exact dn
        | (have q := dn; rw [Heap.size_push, Heap.size_push] at q; exact q)
    exact ⟨rfl, hq h' tk' (hp.objs.size + 1) dx ⟨old, Nat.le_succ _, ⟨_, _, hx, rfl, rfl, rfl, rfl, rfl⟩, Nat.le_trans (Nat.le_trans (Nat.le_succ _) (Nat.le_succ _)) z, dne, hns⟩⟩
end
end XM
end PySem

set_option Elab.async false
set_option linter.all false
set_option maxRecDepth 100000
set_option maxHeartbeats 4000000
namespace L2N
open PySem PySem.Spec PyProof.Rows L2
theorem relO_one {f : Str} {v : V} {v' : Value} (r : RelV v v') (g : Str) : RelO (List.lookup g [(f, v)]) (if g = f then some v' else none) := by
  by_cases hw : g = f
  · subst hw
    rw [if_pos rfl]
    have q : List.lookup g [(g, v)] = some v := by simp [List.lookup]
    rw [q]
    exact r
  · rw [if_neg hw]
    have qw : (g == f) = false := by simpa using hw
    have q2 : List.lookup g [(f, v)] = none := by simp [List.lookup, qw]
    rw [q2]
    trivial
section
variable {X : Cx} {C D fI : Addr} {f : Str}
/-- C(e), C's __init__ stores the field f -/
def tMkX (C : Addr) (f : Str) (ta : TA) : St → Hp → XK → Prop := fun σ H Q => ta σ H fun vs H1 => ∃ v, vs = [v] ∧ ∀ d, H1 d = none → Q (.ref C) (some d) (upd H1 d (.xd [(f, v)]))
theorem pmk_xm {x : Str} {a : Expr} {ta : TA} {p pos : Pos} {k : Nat} (T : PySem.XM.XmC X.prog X.K C D fI f) (hr : Room k X.A) (gC : X.mg x = some (.ref C)) (gS : X.mg "super" = none) (ha : PA X [a] ta) (hg : Gl X x := by rfl) (hdb : (x == ("__debug__" : Str)) = false := by decide)
    (he : starEach (a :: []) X.env = (false, eval a X.env) :: starEach [] X.env := by rfl) (hpl : (backTo pos (starEach [] X.env)).any (·.1) = false := by rfl) :
    PMk X (.Call (.Name x p) [a] [] pos) (tMkX C f ta) := by
  intro pins s σ H Q I h
  refine wpAny_Call_Name_kw (ld_glob I hg gC ?_ hdb)
  refine PySem.W.callWith_K (h₀ := X.base) I.ok.mod.kin T.kC (thn (ha.run pos pins s σ H _ I h) fun us s1 hh => ?_) he hpl
  obtain ⟨vs, H1, I1, r1, v, ev, q1⟩ := hh
  subst ev
  refine ⟨I1.kIn, ?_⟩
  cases r1 with
  | cons rv rn =>
    rename_i v' us'
    cases rn
    show wpAny _ _ (call (.ref C) [v']) _ _ _
    have hlim := I1.nolimit
    obtain ⟨mb, hb1, hb2⟩ := I1.mod.blt
    have hb3 := hb1.keeps I1.bk
    have hg3 := I1.mod.glob.keeps I1.bk
    have hbs := hb2 "super" (by decide)
    obtain ⟨hp, g, dr, tk, os⟩ := s1
    refine wpAny_call (PySem.XM.own_made T I1.kIn hlim hg3 hb3 gS hbs (by have := hr.dp; omega) fun h' tk' e d M => ?_)
    show MkP X pins σ Q (.ref e) ⟨h', g, dr, tk', os⟩
    obtain ⟨oe, fv, hoe, hc, hd, hdat, h1, h2⟩ := M.obj
    have hns := M.ns
    obtain ⟨G', g1, g2⟩ := restrict h' fun b => decide (b ≠ e)
    have gk : ∀ b, b ≠ e → G'.get? b = h'.get? b := fun b hb => g1 b (decide_eq_true hb)
    have ge : G'.get? e = none := g2 e (by simp)
    have old : ∀ b o, hp.get? b = some o → G'.get? b = some o := fun b o q => (gk b (Nat.ne_of_lt (Nat.lt_of_lt_of_le (Heap.lt_size q) M.new))).trans (M.keep b o q)
    have ob : ObjOk X.prog X.w (upd H1 d (.xd [(f, v)])) G' d (.xd [(f, v)]) :=
      ⟨_, hns.at (fun o q => (gk d M.dne).trans q), fun g => relO_one rv g⟩
    have J : Inv X pins σ (upd H1 d (.xd [(f, v)])) ⟨G', g, dr, tk', os⟩ := I1.laid (t' := tk') old M.dbig ob
    refine ⟨e, oe, fv, ⟨G', g, dr, tk', os⟩, _, .ref C, some d, rfl, J, fun b o q => ?_, ge, hoe, ⟨hc, hd, fun vs e => ?_⟩, hdat, h1, ?_, rfl, I1.bare, raises_own T.exC T.tyC, q1 d (I1.hok.fresh M.dbig)⟩
    · by_cases hb : b = e
      · have q' : G'.get? b = some o := q
        rw [hb, ge] at q'; cases q'
      · exact (gk b hb).symm.trans q
    · rw [hdat] at e
      cases e
      exact h2
    · rw [upd_ne (Ne.symm M.dne)]
      exact I1.hok.fresh M.new
end
/-! ### several except clauses with names -/
inductive HdsA (X : Cx) : List ExceptHandler → List (Value × Nat × (Addr → Value → Option Addr → TS)) → Prop
  | nil : HdsA X [] []
  | cons {x n : Str} {c : Value} {i : Nat} {ts : Addr → Value → Option Addr → TS} {b₀ : Stmt} {suite : List Stmt} {np pos' : Pos} {hds : List ExceptHandler} {l : List (Value × Nat × (Addr → Value → Option Addr → TS))} (hc : Names X x c) (hi : X.N[i]? = some n) (hln : X.env.kindOf n = some .local)
      (hsu : ∀ (a : Addr) (oe : Obj) (cls : Value) (d : Option Addr) (pn : List (Addr × Obj)), Zn cls d oe → (∃ vs, oe.data = .fields vs) → PSs (X.suite a ((a, oe) :: pn)) (b₀ :: suite) (ts a cls d)) (r : HdsA X hds l) :
      HdsA X (.ExceptHandler (some (.Name x np)) (some n) (b₀ :: suite) pos' :: hds) ((c, i, ts) :: l)
/-- what the clauses wish of an exception of the body, one after the other -/
def wManyA (K : PySem.W.Frag) (Wout : WX) (D : Ends) : List (Value × Nat × (Addr → Value → Option Addr → TS)) → WX
  | [] => Wout
  | (c, i, ts) :: r => fun cls d σ H => ∃ b, PySem.W.exmOne K cls c = some b ∧ (b = true → ∀ a, H a = none → ts a cls d { nx := fun σ' H' => D.nx (σ'.set i none) H', rt := D.rt, bk := fun σ' H' => D.bk (σ'.set i none) H', ct := fun σ' H' => D.ct (σ'.set i none) H' } (σ.set i (some (.ref a))) H) ∧ (b = false → wManyA K Wout D r cls d σ H)
section
variable {X : Cx} {body : List Stmt} {h₀ : ExceptHandler} {hds : List ExceptHandler} {l : List (Value × Nat × (Addr → Value → Option Addr → TS))} {pos : Pos} {tb : WX → TS} {Wout : WX}
theorem ps_try_manyA (hs : X.stack = X.env :: X.outer) (hf : X.env.frame = some X.env.locals) (hN : X.N.Nodup) (tk : Takes X Wout)
    (hb : ∀ (W : WX) (pn : List (Addr × Obj)) (xe : Value → Shared → Prop), Takes (X.tr pn xe) W → PassesOwn (model X.prog X.w) X.A X.env xe → PSs (X.tr pn xe) body (tb W))
    (hh : HdsA X (h₀ :: hds) l) : PS X (.Try body (h₀ :: hds) [] [] pos) (fun D σ H => tb (wManyA X.K Wout D l) D σ H) := by
  refine ⟨fun pins s σ H D I h => ?_⟩
  have ok := I.ok
  have hfr : X.A.frames = some (X.env :: X.outer) := by rw [ok.frames, hs]
  refine wpAny_Try_except ?_
  refine wpAny_mono ((hb (wManyA X.K Wout D l) (X.pn ++ pins) (fun e s₁ => wpAny (model X.prog X.w) X.A (noteFrame e X.env) (fun _ s₂ => wpAny (model X.prog X.w) X.A (setFlight e none) (fun _ s₃ =>
    wpAny (model X.prog X.w) X.A (handleBy e X.env (h₀ :: hds)) (SP X pins D) X.xe s₃) X.xe s₂) X.xe s₁) (fun u s' xx => ?_) PassesOwn.looking).run [] s σ H D (I.toTry _) h) (fun f s1 hsp => ?_) (fun e s1 he => he)
  · -- the catch
    obtain ⟨a, B, sI, pins', σ', H', cls, d, rfl, J', nb, up, sky, na, os, ag, w⟩ := xx
    have J : Inv X pins σ' H' sI := J'.ofTry ok
    have sky' : Sky B (X.env :: X.outer) a (Zn cls d) X.env.locals s'.heap := by rw [← hs]; exact sky
    show wpAny (model X.prog X.w) X.A (noteFrame (.ref a) X.env) _ _ _
    refine Sky.land Zn.steady hfr hf sky' fun h3 fl3 up3 => ?_
    have J3 : Inv X pins σ' H' { s' with heap := h3 } := J.landed nb fl3.1 (up.trans up3) os ag
    obtain ⟨oe3, vs3, he3, hz3, hd3⟩ := fl3.there
    have notFr : ∀ {h : Heap} {o : Obj} {vs : Array Value}, h.FunFrames B (X.env :: X.outer) → h.get? a = some o → o.data = .fields vs → a ∉ frs (X.env :: X.outer) := fun {h o vs} ff e dd hm => by
      obtain ⟨_, o', e', hnf⟩ := ff.mem hm
      rw [e] at e'; cases e'
      exact hnf _ dd
    have nfr := notFr fl3.2.2.1 he3 hd3
    have nL : a ≠ X.env.locals := fun z => nfr (List.mem_filterMap.mpr ⟨X.env, List.mem_cons_self, by rw [hf, z]⟩)
    have nF : a ∉ X.fs := fun hm => by
      obtain ⟨e, he, q⟩ := List.mem_filterMap.mp hm
      exact nfr (List.mem_filterMap.mpr ⟨e, List.mem_cons_of_mem _ he, q⟩)
    have S3 := J3.suite he3 hd3 na nL nF
    have go : ∀ {hds' : List ExceptHandler} {l' : List (Value × Nat × (Addr → Value → Option Addr → TS))}, HdsA X hds' l' → wManyA X.K Wout D l' cls d σ' H' →
        wpAny (model X.prog X.w) X.A (handleBy (.ref a) X.env hds') (SP X pins D) X.xe { s' with heap := h3 } := by
      intro hds' l' hk
      induction hk with
      | nil =>
        intro w
        refine wpAny_handleBy_nil ?_
        obtain ⟨k1, k2, k3, oe, vs, T, oT, ts', he, hz, hd, h1, hr⟩ := id fl3
        unfold PySem.passOn
        refine wpAny_bind (wpAny_field he hd h1 ?_)
        rw [if_neg (show ¬ ((Value.ref T == Value.none) = true) from by simp)]
        have fin : wpAny (model X.prog X.w) X.A (setFlight (.ref a) X.env.frame) (fun _ s4 => wpAny (model X.prog X.w) X.A (throw (.ref a) : Sem Flow) (SP X pins D) X.xe s4) X.xe { s' with heap := h3 } := by
          rw [hf]
          refine HandSPX.setFlight_upZ fl3 fun h4 hh4 up4 => wpAny_throw (tk _ _ ?_)
          exact ⟨a, B, sI, pins, σ', H', cls, d, rfl, J, nb, (up.trans up3).trans up4, .inr (.inr (by rw [hs]; exact hh4)), na, os, ag, w⟩
        first
          | exact wpAny_bind (wpAny_pure (wpAny_bind fin))
          | exact wpAny_bind fin
      | @cons x n c i ts b₀ suite np pos' hds2 l2 hc hi hln hsu r ih =>
        intro w
        have hloc : Loc X.env.scope n := .inl hln
        obtain ⟨b, hb1, hyes, hno⟩ := w
        refine wpAny_handleBy_cons (codeAny_handlers_test ?_) (by intro q; cases q)
        have LT : PySem.W.Looks (model X.prog X.w) h3 (typeOf (.ref a)) cls := fun A Q E s k q => wpAny_typeOf_ref (k _ _ he3) (by rw [hz3.1]; exact q)
        have LM := PySem.W.exm_one (M := model X.prog X.w) (J3.kIn) LT hb1
        have test : ∀ {Q : Value → Shared → Prop} {E : Value → Shared → Prop}, Q c { s' with heap := h3 } → wpAny (model X.prog X.w) (X.A.mark (some (.ref a))) (eval (.Name x np) X.env) Q E { s' with heap := h3 } := fun {Q E} q => by
          obtain ⟨hg, hdbg, hm | ⟨hm, hv, hnn⟩⟩ := hc
          · exact ld_glob (X := X.suite a ((a, oe3) :: (X.pn ++ pins))) S3 hg hm q hdbg
          · exact ld_blt (X := X.suite a ((a, oe3) :: (X.pn ++ pins))) S3 hg hm hv q hnn hdbg
        refine test (LM.here ?_)
        cases b with
        | true =>
          refine codeAny_handlers_suite_as ?_
          refine HandSPX.lands_againZ fl3 fun h4 fl4 up4 => ?_
          have J4 : Inv X pins σ' H' { s' with heap := h4 } := J.landed nb fl4.1 ((up.trans up3).trans up4) os ag
          obtain ⟨oe4, vs4, he4, hz4, hd4⟩ := fl4.there
          have S4 := J4.suite he4 hd4 na nL nF
          refine store_ok (X := X.suite a ((a, oe4) :: (X.pn ++ pins))) (v := .ref a) S4 hN hi hloc rfl (fun s5 S5 => ?_) (.inr hln)
          refine wpAny_mono ((hsu a oe4 cls d (X.pn ++ pins) hz4 ⟨_, hd4⟩).run [] s5 _ H' _ S5 (hyes rfl a na)) (fun f s6 hsp => ?_) (fun _ _ z => False.elim z)
          have end_ : ∀ {σ6 : St} {H6 : Hp} {Q : Shared → Prop}, Inv (X.suite a ((a, oe4) :: (X.pn ++ pins))) [] σ6 H6 s6 → (∀ s7, Inv X pins (σ6.set i none) H6 s7 → Q s7) →
              wpAny (model X.prog X.w) X.A (do bindName X.env n .none; unbindBehindTheSuite X.env n pos') (fun _ s7 => Q s7) X.xe s6 := fun {σ6 H6 Q} S6 hq => gone_ok (S6.unsuite ok) hN hi hln hq
          cases f with
          | next =>
            obtain ⟨σ6, H6, S6, q6⟩ := hsp
            exact end_ S6 fun s7 J7 => ⟨_, _, J7, q6⟩
          | brk =>
            obtain ⟨σ6, H6, S6, q6⟩ := hsp
            exact end_ S6 fun s7 J7 => ⟨_, _, J7, q6⟩
          | cont =>
            obtain ⟨σ6, H6, S6, q6⟩ := hsp
            exact end_ S6 fun s7 J7 => ⟨_, _, J7, q6⟩
          | ret u =>
            obtain ⟨v6, σ6, H6, S6, r6, q6⟩ := hsp
            exact end_ S6 fun s7 J7 => ⟨_, _, _, J7, r6, q6⟩
        | false =>
          show wpAny _ X.A (handleBy (.ref a) X.env hds2) _ _ _
          exact ih (hno rfl)
    exact go hh w
  · cases f with
    | next =>
      obtain ⟨σ', H', J', q⟩ := hsp
      exact wpAny_execs_nil ⟨σ', H', J'.ofTry ok, q⟩
    | brk =>
      obtain ⟨σ', H', J', q⟩ := hsp
      exact ⟨σ', H', J'.ofTry ok, q⟩
    | cont =>
      obtain ⟨σ', H', J', q⟩ := hsp
      exact ⟨σ', H', J'.ofTry ok, q⟩
    | ret u =>
      obtain ⟨v, σ', H', J', r, q⟩ := hsp
      exact ⟨v, σ', H', J'.ofTry ok, r, q⟩
end
end L2N

set_option Elab.async false
set_option linter.all false
set_option maxRecDepth 100000
set_option maxHeartbeats 4000000
namespace L2E
open PySem PySem.Spec PyProof.Rows L2 L2H
open L2N (Zn)
abbrev SpE := Addr → Value → Option Addr → Sp
/-- a def that is called with the exception that an except suite holds -/
structure FnE (P : Program) (w : World) (K : PySem.W.Frag) (mg : Str → Option Value) (base : Heap) (k : Nat) (f : Addr) (fd : FuncData) (ps : List Str) (sp : SpE) : Prop where
  len : ∀ a cls d vs H Q E, sp a cls d vs H Q E → vs.length = ps.length
  run : ∀ (A : Around) (outer : List Env) (s : Shared) (H : Hp) (args : Args) (us : List Value) (vs : List V) (Q : VK) (E : XK) (p : Addr × Obj) (cls : Value) (d : Option Addr), RoomH k A → Hot1 A p → Zn cls d p.2 → PinOk outer H s p → Env0 P w K mg base A outer s H → BindsTo s fd args (ps.zip us) → Vals vs us → sp p.1 cls d vs H Q E →
    codeAny (model P w) A (.call (.ref f) args) (CR CX0 outer P w H s Q E) s
theorem fn_ofE {P : Program} {w : World} {K : PySem.W.Frag} {mg : Str → Option Value} {base : Heap} {k : Nat} {f : Addr} {name qual : Str} {params : Arguments} {body : List Stmt} {scope : Scope} {dV kV doc pm cdv ct oc : Value} {an od : Option Addr}
    {osl : Array (Option Value)} {N ps : List Str} {sp : SpE} (lk : K.lookup f = some ⟨oc, od, .func (PySem.W.fnOf name qual params body scope dV kV doc pm an cdv ct), osl⟩) (hcd : PySem.W.codeIn K cdv qual = true) (S : FnScope N ps scope)
    (len : ∀ a cls d vs H Q E, sp a cls d vs H Q E → vs.length = ps.length)
    (hbody : ∀ (A : Around) (outer : List Env) (s : Shared) (H : Hp) (vs : List V) (Q : VK) (E : XK) (p : Addr × Obj) (cls : Value) (d : Option Addr), Hot1 A p → Zn cls d p.2 → RoomH k (A.deeper (envOfC qual scope s.heap.objs.size f cdv)) → sp p.1 cls d vs H Q E →
      ∃ t, PSs (cxH CX0 P w K mg base N qual scope f cdv A outer s H E p) body t ∧ t { nx := fun _ H' => Q .non H', rt := Q } (L2.start N vs) H) :
    FnE P w K mg base (k + 1) f (PySem.W.fnOf name qual params body scope dV kV doc pm an cdv ct) ps sp := by
  refine ⟨len, fun A outer s H args us vs Q E p cls d hr hot hz hpin e0 hb r hsp => ?_⟩
  have hl := len _ _ _ _ _ _ _ hsp
  have KX : K.In s.heap := e0.mod.kin.keeps fun b o e => (e0.bs b o e).1
  have lim : s.heap.NoLimit := e0.mod.nolimit.keeps fun b o e => (e0.bs b o e).1
  have hkind : ∀ y ∈ ps.zip us, scope.names.lookup y.1 = some .local ∨ (scope.names.lookup y.1 = some .cell ∧ ((cellsFrom (s.heap.objs.size + 1) scope.names []).lookup y.1).isSome = true) := fun ⟨n, v⟩ hy => by
    rcases S.par n (List.of_mem_zip hy).1 with q | q
    · exact .inl q
    · exact .inr ⟨q, PySem.W.cellsFrom_some _ _ _ (.inl q)⟩
  refine codeAny_call_function hr.depth (KX _ _ lk) rfl S.co S.gen rfl (PySem.W.codeRec_of KX hcd) (hb _ _ _ _ ?_)
  refine wpAny_newFunctionEnv_cells S.kind hkind fun env he s1 x => ?_
  subst he
  refine ⟨lim.keeps x.toInCall.keep, codeAny_func ?_⟩
  obtain ⟨t, ht, hq⟩ := hbody A outer s H vs Q E p cls d hot hz (hr.deeper _) hsp
  have I : Inv (cxH CX0 P w K mg base N qual scope f cdv A outer s H E p) [] (L2.start N vs) H s1 := inv_startH S hpin e0 hl r x
  refine wpAny_mono (ht.run [] s1 (L2.start N vs) H _ I hq) (fun fl s' hs => ?_) fun e s' hs => hs
  have fin : ∀ {σ' : L2.St} {H' : Hp} {v : V} {u : Value}, Inv (cxH CX0 P w K mg base N qual scope f cdv A outer s H E p) [] σ' H' s' → RelV v u → Q v H' → CE outer P w H s Q u s' :=
    fun {σ' H' v u} J rv q => ⟨v, H', J.os, J.bare, J.base, J.hok, rv, q⟩
  cases fl with
  | ret u =>
    obtain ⟨v, σ', H', J, rv, q⟩ := hs
    exact fin J rv q
  | next =>
    obtain ⟨σ', H', J, q⟩ := hs
    exact fin (v := V.non) (u := Value.none) J rfl q
  | brk =>
    obtain ⟨_, _, _, q⟩ := hs
    exact False.elim q
  | cont =>
    obtain ⟨_, _, _, q⟩ := hs
    exact False.elim q
/-- the call, in the suite -/
def tCallE (sp : SpE) (a : Addr) (cls : Value) (d : Option Addr) (t : TA) : TE := fun σ H Q => t σ H fun vs H1 => sp a cls d vs H1 Q fun _ _ _ => False
section
variable {X : Cx} {a : Addr} {oe : Obj} {cls : Value} {d : Option Addr} {pn : List (Addr × Obj)} {k : Nat} {f : Addr} {fd : FuncData} {ps : List Str} {sp : SpE} {x : Str} {q pos : Pos} {e : Expr} {es : List Expr} {t : TA}
theorem pe_callE (F : FnE X.prog X.w X.K X.mg X.base k f fd ps sp) (hr : RoomH k X.A) (hz : Zn cls d oe) (hf : ∃ vs, oe.data = .fields vs) (hg : Gl (X.suite a ((a, oe) :: pn)) x) (hm : X.mg x = some (.ref f)) (hk : PySem.W.keepIn X.K (.ref f) = true) (hb : Binds X.K fd ps [])
    (ha : PA (X.suite a ((a, oe) :: pn)) (e :: es) t) (hdb : (x == ("__debug__" : Str)) = false := by decide) (he : starEach (e :: es) X.env = (false, eval e X.env) :: starEach es X.env := by rfl) (hpl : (backTo pos (starEach es X.env)).any (·.1) = false := by rfl) :
    PE (X.suite a ((a, oe) :: pn)) (.Call (.Name x q) (e :: es) [] pos) (tCallE sp a cls d t) := by
  refine ⟨fun pins s σ H Q I h => ?_⟩
  refine wpAny_Call_Name_kw (ld_glob I hg hm ?_ hdb)
  refine PySem.W.callWith_K (h₀ := X.base) I.ok.mod.kin hk (thn (ha.run pos pins s σ H _ I h) fun us s1 ⟨vs, H1, I1, r, q⟩ => ⟨I1.kIn, ?_⟩) he hpl
  have hl : us.length = ps.length := by rw [← r.length]; exact F.len _ _ _ _ _ _ _ q
  have b := hb s1 us I1.kIn (by rw [List.append_nil]; exact hl)
  rw [List.append_nil] at b
  have P1 := I1.pin (a, oe) (List.mem_append_left _ List.mem_cons_self)
  have hpin : PinOk X.stack H1 s1 (a, oe) := ⟨P1.1, P1.2.1, fun hm => (List.mem_cons.mp (I1.stkSub a hm)).elim P1.2.2.1 P1.2.2.2.1, P1.2.2.2.2⟩
  obtain ⟨fv, hfv⟩ := hf
  have hot : Hot1 (X.suite a ((a, oe) :: pn)).A (a, oe) := ⟨rfl, fv, hfv, hz.2.2 fv hfv⟩
  refine wpAny_call (codeAny_mono (F.run _ X.stack s1 H1 ⟨us, []⟩ us vs Q (fun _ _ _ => False) (a, oe) cls d ⟨hr.dp, hr.un⟩ hot hz hpin I1.env0 b r q) fun r s' hq => ?_)
  cases r with
  | error e => exact False.elim hq
  | ok fl =>
    cases fl with
    | ret u => exact I1.after hq
    | next => exact False.elim hq
    | brk => exact False.elim hq
    | cont => exact False.elim hq
end
end L2E

set_option Elab.async false
set_option linter.all false
set_option maxRecDepth 100000
set_option maxHeartbeats 4000000
/-! isinstance of an exception that has a dict -/
namespace PySem.W
open PySem PySem.Spec PySem.Calls PyProof.Rows
section
variable {prog : Program} {w : World} {A : Around} {E : Value → Shared → Prop} {s : Shared} {K : Frag} {x D : Addr} {ox : Obj} {od : Option Obj}
theorem xis_data {C : Addr} {name : Str} {a g : Value} (hc : (clsIn K C).isSome = true) (ha : findIn K (.ref C) name = some (some a)) (hg : specialIn K a "__get__" = some (some g)) (ht : takesIn K a = some true) : findObj K C od name = some (.bind g a) := by
  obtain ⟨cd, hc⟩ := Option.isSome_iff_exists.mp hc
  unfold findObj
  rw [hc, Option.bind_some, ha, Option.bind_some]
  simp [hg, ht]
theorem xis_class {Q : Option Value → Shared → Prop} (T : L2.ExcC K D) (X : K.In s.heap) (I : InstAt s.heap x ox D od) (h : Q (some (.ref D)) { s with toks := s.toks + 1 }) : wpAny (model prog w) A (getAttr? (.ref x) "__class__") Q E s := by
  have hf : findObj K D od "__class__" = some (.bind (.builtin "getset_descriptor.__get__") (.builtin "object.__class__")) := xis_data (by obtain ⟨cd, hc, _⟩ := any_some T.hd; rw [hc]; rfl) T.ha T.hn T.ht
  obtain ⟨hp, g, d, t, os⟩ := s
  have La := I.type (M := model prog w)
  have Lb := looks_findIn (M := model prog w) X T.hg
  have Lc := looks_findIn (M := model prog w) X T.hk
  have Ld := looks_find (M := model prog w) X I hf
  have sub : Looks (model prog w) hp (isInstance (.ref x) (.type "BaseException")) true := La.andThen (looks_subIn X T.hs)
  have hx0 : (false && onTheHeap (Value.builtin "BaseException.__getattribute__")) = false := rfl
  have hx2 : (Value.builtin "BaseException.__getattribute__" == Value.builtin "object.__getattribute__") = false := by decide +kernel
  have hx1 : (onTheHeap (Value.ref D) && Value.builtin "BaseException.__getattribute__" == Value.builtin "object.__getattribute__") = false := by rw [hx2]; rfl
  unfold getAttr? getAttrBy? getAttrBy
  refine wpAny_bind (wpAny_mkText (wpAny_bind (wpAny_attempt (wpAny_holding (wpAny_bind (La.at (wpAny_bind (Lb.at ?_))))))))
  show wpAny _ _ (if (onTheHeap (Value.ref D) && Value.builtin "BaseException.__getattribute__" == Value.builtin "object.__getattribute__") = true then _ else _) _ _ _
  rw [hx1, if_neg Bool.false_ne_true]
  unfold getAttrByItsOwn hookBefore
  refine wpAny_bind ?_
  rw [if_pos (show onTheHeap (Value.ref D) = true from rfl)]
  refine Lc.at ?_
  refine wpAny_bind (wpAny_attempt (wpAny_holding ?_))
  unfold callGetattribute
  rw [hx0, if_neg Bool.false_ne_true]
  unfold boundAndCalled
  rw [PySem.F.excAttr_ValueError.ga.bind (.ref x)]
  refine wpAny_bind (wpAny_pure ?_)
  show wpAny _ _ (call (.builtin "BaseException.__getattribute__") [.ref x, .str "__class__" t]) _ _ _
  refine wpAny_call (codeAny_call_builtin PySem.F.excAttr_ValueError.ga.plain PySem.F.entry_bexc_ga ?_)
  refine @check_slot (model prog w) _ _ ⟨hp, g, d, t + 1, os⟩ "BaseException.__getattribute__" "BaseException" "__getattribute__" (.ref x) [.str "__class__" t] [] _ (by decide +kernel) (by decide +kernel) sub (PySem.F.args_bexc_ga (.ref x) (.str "__class__" t)) ?_
  unfold Builtin.«object.__getattribute__»
  refine wpAny_bind (wpAny_of_eq (a := ((Value.ref x : Value), [Value.str "__class__" t])) (by first | rfl | (simp only [slotArgs]; rfl)) ?_)
  refine wpAny_bind (wpAny_pure (wpAny_bind (La.at (wpAny_bind (Ld.at ?_)))))
  show wpAny _ _ (holding [Value.builtin "object.__class__"] (call (.builtin "getset_descriptor.__get__") [.builtin "object.__class__", .ref x, .ref D]) >>= ret) _ _ _
  refine wpAny_bind (wpAny_holding (wpAny_call (class_get (s := ⟨hp, g, d, t + 1, os⟩) (ox := ox) (od := od) X I T.hm ?_)))
  refine wpAny_pure ?_
  show wpAny _ _ (handedOut (.ref D)) _ _ _
  rw [handedOut_of (v := .ref D) rfl]
  first
    | exact wpAny_pure (wpAny_pure h)
    | exact wpAny_pure h
    | exact wpAny_pure (wpAny_bind (wpAny_pure (wpAny_pure h)))
theorem xis_kit (T : L2.ExcC K D) : KitX K (.ref x) (.ref D) (fun h => InstAt h x ox D od) where
  ty := fun _ _ _ I => I.type
  it := fun _ _ X _ => by
    obtain ⟨cdD, hcD, _⟩ := any_some T.hd
    unfold clsIn at hcD
    split at hcD
    · rename_i c' d' cd' sl' ho
      intro A' Q' E' s' k q
      unfold isType loadHead
      exact wpAny_bind (wpAny_loadPart (k _ _ (X _ _ ho)) (wpAny_pure q))
    · cases hcD
  ne := fun h tp dd its n sl X htp => by
    obtain ⟨cdD, hcD, _⟩ := any_some T.hd
    refine Bool.eq_false_iff.mpr fun q => ?_
    have e : D = tp := Value.ref.inj (beq_iff_eq.mp q)
    subst e
    unfold clsIn at hcD
    split at hcD
    · rename_i c' d' cd' sl' ho
      have z := (X _ _ ho).symm.trans htp
      cases z
    · cases hcD
  ca := fun X I k => xis_class T X I k
end
end PySem.W
namespace L2E
open PySem PySem.Spec PyProof.Rows L2 L2H
/-- isinstance(e, c), e the exception that is handled -/
def rIsX (K : PySem.W.Frag) (D a : Addr) (d : Option Addr) : List V → Hp → VK → Prop := fun xs H Q => ∃ (c : V) (cv : Value) (b : Bool), xs = [.ref a, c] ∧ (∀ u, RelV c u → u = cv) ∧ PySem.W.kitOne K (.ref D) cv = some b ∧ (∀ dd, d = some dd → ∃ fs, H dd = some (.xd fs)) ∧ Q (.bl b) H
theorem call_isX {X : Cx} {D : Addr} {d : Option Addr} {p : Addr × Obj} (C : ExcC X.K D) (hz : Zc (.ref D) d p.2) (hf : ∃ vs, p.2.data = .fields vs) (hp : p ∈ X.pn) : CallR X (.builtin "isinstance") (rIsX X.K D p.1 d) := by
  intro pins s σ H xs us Q I r h
  obtain ⟨c, cv, b, rfl, hcv, e, hd, q⟩ := h
  cases r with
  | cons rx rr =>
    cases rr with
    | cons rt rr =>
      cases rr
      cases rx
      have ec := hcv _ rt
      subst ec
      obtain ⟨hget, _⟩ := I.pin p (List.mem_append.mpr (.inl hp))
      obtain ⟨vs, hv⟩ := hf
      obtain ⟨pa, oc, od, oda, osl⟩ := p
      obtain ⟨h1, h2⟩ := hz
      dsimp only at h1 h2 hv hget
      subst h1 h2 hv
      have fin : ∀ oD : Option Obj, PySem.W.InstAt s.heap pa ⟨.ref D, od, .fields vs, osl⟩ D oD → wpAny (model X.prog X.w) X.A (call (.builtin "isinstance") [.ref pa, _]) (EP X pins σ Q) X.xe s := fun oD J =>
        PySem.W.kia_one (PySem.W.xis_kit C) I.kIn J e (fun z => nomatch z) fun tk => ⟨.bl b, H, I.kept (t' := tk) fun _ _ z => z, rfl, q⟩
      cases od with
      | none => exact fin none ⟨hget, rfl, rfl, trivial⟩
      | some dd =>
        obtain ⟨fs, hfs⟩ := hd dd rfl
        have hx : ObjOk X.prog X.w H s.heap dd (.xd fs) := I.hok dd _ hfs
        obtain ⟨mA, hns, hr⟩ := hx
        obtain ⟨oD, ho, hl⟩ := lookIn_ns hns
        exact fin (some oD) ⟨hget, rfl, rfl, ho⟩
end L2E

set_option Elab.async false
set_option linter.all false
set_option maxRecDepth 100000
set_option maxHeartbeats 4000000
/-! a list comprehension over a range, within an except suite's calls (follows HandS.Comp's lc_core, the pins kept) -/
namespace L2E
open PySem PySem.Spec PyProof.Rows L2 L2H
abbrev St := L2.St
abbrev _root_.L2.Cx.blkH (X : Cx) (s : Shared) (H : Hp) (scope : Scope) (cenv : Env) (fp : List Addr) : Cx := { X with s_0 := s, H_0 := H, env := cenv, outer := X.stack, ex := fp, fn := fun x => scope.names.lookup x == some .cell, xe := fun _ _ => False }
section
variable {X : Cx} {pins : List (Addr × Obj)} {σ : St} {H : Hp} {s : Shared}
theorem block_startH {scope : Scope} {own : List (Str × Nat)} {fp : List Addr} (I : Inv X pins σ H s) (ok : BlkOk X.N X.env.scope scope own) (hN : X.N.Nodup) (hfp : ∀ b ∈ fp, FpOk X pins H b ∧ b < s.heap.objs.size) :
    Inv (X.blkH s H scope (compEnvC scope (cellsFrom (s.heap.objs.size + 1) scope.names (cloFrom X.env.cells scope.names [])) s.heap.objs.size X.env) fp) [] (wipe σ (own.map (·.2))) H { s with heap := pushCells (s.heap.push { cls := .type "dict", data := .dict #[] }) scope.names } := by
  have J := block_start I ok hN hfp
  refine ⟨⟨J.ok.mod, J.ok.kind, J.ok.glob, J.ok.blt, J.ok.above, J.ok.inj, J.ok.has, J.ok.cab, J.ok.hd, J.ok.frames, J.ok.stk, J.ok.exf, J.ok.bs, J.ok.bsz, J.ok.noex, J.ok.exfs, J.ok.funs, J.ok.frf⟩, J.os, J.bare, J.base, J.loc, J.cell, J.free, J.freeC, fun p hp => ?_, J.hok, J.len⟩
  have hp' : p ∈ X.pn := (List.mem_append.mp hp).elim id (fun z => absurd z (by simp))
  obtain ⟨h1, h2, h3, h4, h5⟩ := I.pin p (List.mem_append_left _ hp')
  have lt := Heap.lt_size h1
  exact ⟨pushCells_keeps _ _ _ _ (Heap.get?_push_of_some _ h1), h2, Nat.ne_of_lt lt, fun hm => (List.mem_cons.mp (I.stkSub p.1 hm)).elim h3 h4, h5⟩
end
section
variable {X : Cx}
theorem lc_coreH {pins : List (Addr × Obj)} {s : Shared} {σ : St} {H : Hp} {Q : VK} {elt tg iter : Expr} {ifs : List Expr} {scope : Scope} {own : List (Str × Nat)} {pos pos' : Pos} {wi : TI} {g : TG} {tt : TT} {te : TE} {use : Option (Value → Sem Unit)} {Qf : Value → Shared → Prop}
    (hc : HotC X) (hN : X.N.Nodup) (I : Inv X pins σ H s) (hi : PIH X tg iter wi) (ok : BlkOk X.N X.env.scope scope own)
    (hg : ∀ (s : Shared) (H : Hp) (C : Addr) (cl : List (Str × Addr)) (fp : List Addr), PG (X.blkH s H scope (compEnvC scope cl C X.env) fp) tg g) (ht : ∀ (s : Shared) (H : Hp) (C : Addr) (cl : List (Str × Addr)) (fp : List Addr), PTs (X.blkH s H scope (compEnvC scope cl C X.env) fp) ifs tt)
    (he : ∀ (s : Shared) (H : Hp) (C : Addr) (cl : List (Str × Addr)) (fp : List Addr), PE (X.blkH s H scope (compEnvC scope cl C X.env) fp) elt te) (hs : ∀ x, foldedSetIterable iter X.env x = pure x)
    (h : tLc wi g tt te (own.map (·.2)) σ H Q)
    (hRR : ∀ D C s' m H', Inv X pins σ H' s' → Q (.ref D) H' → s'.heap.Ns C m → FpOk X pins H' C → compPost (model X.prog X.w) X.A X.xe use Qf (.ref D) C (.ok .next) s') :
    wpAny (model X.prog X.w) X.A (comprehension (.ListComp elt [⟨tg, iter, ifs, 0⟩] scope pos) scope X.env pos' (newList []) false (eval iter X.env) use) Qf X.xe s := by
  have hfree : ∀ y ∈ scope.names, y.2 = .free → ∃ c, X.env.cells.lookup y.1 = some c := fun y hy e => by
    rcases ok.free y hy e with k | k
    · exact I.ok.has _ (.inl k)
    · exact I.ok.has _ (.inr k)
  refine wpAny_comprehension_free (use := use) rfl hs (closure_ok hfree) ok.kind (fun y hy e => by rw [ok.uniq y hy, e])
    (thn (hi.run pins s σ H _ I h) fun xv s1 hx => thn hx fun itv s2 h2 => ?_)
  obtain ⟨it, fp, tn, J, H2, e, I2, T, st2, f2, q⟩ := h2
  subst e
  refine wpAny_newObj_type (newEnv_comp ?_) (by show 0 ≤ sizeLine; decide)
  generalize hD : s2.heap.objs.size = D
  have hDn : H2 D = none := I2.hok.fresh (Nat.le_of_eq hD)
  obtain ⟨W, ⟨m0, w0⟩, turn⟩ := q D hDn
  -- the new list
  generalize hs3 : ({ s2 with heap := s2.heap.push { cls := .type "list", data := .seq ([] : List Value).toArray } } : Shared) = s3
  have I3 : Inv X pins σ (upd H2 D (.lst [])) s3 := by
    rw [← hs3]
    refine I2.laid (t' := s2.toks) (fun b o e => Heap.get?_push_of_some _ e) (Nat.le_of_eq hD) ⟨Nat.zero_le _, [], 0, .nil, ?_⟩
    rw [← hD]
    exact Heap.get?_push_size _ rfl
  have h3 : s3.heap = s2.heap.push { cls := .type "list", data := .seq ([] : List Value).toArray } := by rw [← hs3]
  have sz : ∀ b ∈ fp, b < s2.heap.objs.size := fun b hb => by
    obtain ⟨o, e, _⟩ := T.obj _ _ st2 b hb
    exact Heap.lt_size e
  have f3 : ∀ b ∈ fp, FpOk X pins (upd H2 D (.lst [])) b ∧ b < s3.heap.objs.size := fun b hb => by
    have hlt := sz b hb
    refine ⟨⟨?_, (f2 b hb).2⟩, by rw [h3, Heap.size_push]; exact Nat.lt_succ_of_lt hlt⟩
    rw [upd_ne (by rw [← hD]; exact Nat.ne_of_lt hlt)]
    exact (f2 b hb).1
  have st3 : tn 0 s3.heap := T.keep _ _ _ st2 fun b _ o e => by rw [h3]; exact Heap.get?_push_of_some _ e
  have I4 := block_startH I3 ok hN f3
  have pg := hg s3 (upd H2 D (.lst [])) s3.heap.objs.size (cellsFrom (s3.heap.objs.size + 1) scope.names (cloFrom X.env.cells scope.names [])) fp
  have pt := ht s3 (upd H2 D (.lst [])) s3.heap.objs.size (cellsFrom (s3.heap.objs.size + 1) scope.names (cloFrom X.env.cells scope.names [])) fp
  have pe := he s3 (upd H2 D (.lst [])) s3.heap.objs.size (cellsFrom (s3.heap.objs.size + 1) scope.names (cloFrom X.env.cells scope.names [])) fp
  show codeAny _ _ (.compStart (.ListComp elt [⟨tg, iter, ifs, 0⟩] scope pos) 0 (.ref it) (.ref D) (compEnvC scope (cellsFrom (s3.heap.objs.size + 1) scope.names (cloFrom X.env.cells scope.names [])) s3.heap.objs.size X.env)) (compPost (model X.prog X.w) X.A X.xe use Qf (.ref D) s3.heap.objs.size) { s3 with heap := pushCells (s3.heap.push { cls := .type "dict", data := .dict #[] }) scope.names }
  have nfp : ∀ b ∈ fp, (upd H2 D (.lst [])) b = none := fun b hb => (f3 b hb).1.1
  generalize hce : compEnvC scope (cellsFrom (s3.heap.objs.size + 1) scope.names (cloFrom X.env.cells scope.names [])) s3.heap.objs.size X.env = ce at I4 pg pt pe ⊢
  have cL : ce.locals = s3.heap.objs.size := by subst hce; rfl
  generalize hH3 : upd H2 D (.lst []) = H3 at I3 I4 pg pt pe w0 nfp f3
  generalize hs4 : ({ s3 with heap := pushCells (s3.heap.push { cls := .type "dict", data := .dict #[] }) scope.names } : Shared) = s4 at I4 ⊢
  have st4 : tn 0 s4.heap := T.keep _ _ _ st3 fun b _ o e => by rw [← hs4]; exact pushCells_keeps _ _ _ _ (Heap.get?_push_of_some _ e)
  have stat : ∀ {σ' : St} {H' : Hp} {s' : Shared}, Inv (X.blkH s3 H3 scope ce fp) [] σ' H' s' → (∀ b ∈ fp, H' b = none) → ∀ b ∈ fp, FpOk (X.blkH s3 H3 scope ce fp) [] H' b := fun {σ' H' s'} I' hn b hb =>
    ⟨hn b hb, (I'.ok.exf b hb).1, I'.ok.exfs b hb, .inl hb, fun x c e => (I'.ok.exf b hb).2 x c e, fun p hp => (f3 b hb).1.2.2.2.2.2 p (List.mem_append_left _ ((List.mem_append.mp hp).elim id (fun z => absurd z (by simp))))⟩
  have loop : codeAny (model X.prog X.w) X.A (.compLoop (.ListComp elt [⟨tg, iter, ifs, 0⟩] scope pos) 0 (.ref it) (.ref D) ce) (compPost (model X.prog X.w) X.A X.xe use Qf (.ref D) s3.heap.objs.size) s4 := by
    refine compLoop_any (fun n s' => ∃ i H', Inv (X.blkH s3 H3 scope ce fp) [] (wipe σ (own.map (·.2))) H' s' ∧ tn i s'.heap ∧ (∀ b ∈ fp, H' b = none) ∧ W i n H') ?_ m0 ⟨0, H3, I4, st4, nfp, w0⟩
    rintro n s5 ⟨i, H5, I5, st5, n5, w5⟩
    rcases turn i n H5 w5 with ⟨stop, qq⟩ | ⟨go, Nx, hNx, step⟩
    · have td := T.done (X.blkH s3 H3 scope ce fp) rfl rfl rfl hc i [] s5 _ H5 (fun _ _ => False) I5 (stat I5 n5) st5 stop
      refine thnF td fun r s6 ⟨hr, I6⟩ => ?_
      subst hr
      -- back in the def's context
      have I7 : Inv X pins σ H5 s6 := I3.call' (ch := fp) I6.os I6.base I6.hok I6.bare fun b hb => ⟨(f3 b hb).1.2.2.2.1, (f3 b hb).1.2.1, (f3 b hb).1.2.2.2.2.1, (f3 b hb).1.2.2.2.2.2⟩
      have nC : H5 s3.heap.objs.size = none := by
        have z : H5 ce.locals = none := I6.free
        rw [cL] at z
        exact z
      obtain ⟨m, hn, _⟩ := I6.loc
      have hn : s6.heap.Ns ce.locals m := hn
      rw [cL] at hn
      exact hRR D s3.heap.objs.size s6 m H5 I7 qq hn (I3.fpOk (Nat.le_refl _) nC)
    · have ti := T.item (X.blkH s3 H3 scope ce fp) rfl rfl rfl hc i [] s5 _ H5 (fun _ _ => False) I5 (stat I5 n5) st5 go
      refine thnF ti fun r s6 ⟨u, hr, h6⟩ => ?_
      subst hr
      refine thnF h6 fun _ s7 ⟨x, H7, I7, r7, y7, st7, n7⟩ => ?_
      have I7' := I7.pinned (stat I7 n7) (T.obj _ _ st7)
      refine thnF (pg.run _ s7 _ H7 x u _ I7' r7 (step x H7 y7)) fun _ s8 ⟨σ8, H8, I8, hw8, q8⟩ => ?_
      refine thnF (pt.run _ s8 σ8 H8 _ I8 q8) fun b s9 ⟨H9, I9, q9⟩ => ?_
      -- the turn's end
      have fin : ∀ {s' : Shared} {H' : Hp}, Inv (X.blkH s3 H3 scope ce fp) ([] ++ pinsAt fp s7.heap) σ8 H' s' → Nx H' → ∃ m, m < n ∧ ∃ i H', Inv (X.blkH s3 H3 scope ce fp) [] (wipe σ (own.map (·.2))) H' s' ∧ tn i s'.heap ∧ (∀ b ∈ fp, H' b = none) ∧ W i m H' := fun {s' H'} I' nx => by
        obtain ⟨m', hm, w'⟩ := hNx H' nx
        have pin' : ∀ b ∈ fp, ∀ o, s7.heap.get? b = some o → s'.heap.get? b = some o ∧ H' b = none := fun b hb o e =>
          let z := I'.pin (b, o) (List.mem_append_right _ (List.mem_append_right _ (mem_pinsAt hb e)))
          ⟨z.1, z.2.1⟩
        have hl : (wipe σ (own.map (·.2))).length = σ8.length := by rw [← hw8, wipe_length]
        refine ⟨m', hm, i + 1, H', (I'.unpinned (pins := [])).weak hl (fun j v e => ?_), T.keep _ _ _ st7 fun b hb o e => (pin' b hb o e).1, fun b hb => ?_, w'⟩
        · rw [← hw8] at e
          exact (wipe_some e).1
        · obtain ⟨o, e, _⟩ := T.obj _ _ st7 b hb
          exact (pin' b hb o e).2
      cases b with
      | false =>
        simp only [Bool.false_eq_true, if_false] at q9 ⊢
        exact fin I9 q9
      | true =>
        simp only [if_true] at q9 ⊢
        refine thnF (pe.run _ s9 σ8 H9 _ I9 q9) fun z s10 ⟨yv, H10, I10, r10, acc, hD10, hz10, nx⟩ => ?_
        exact app_ok (X := X.blkH s3 H3 scope ce fp) I10 hD10 hz10 r10 fun s11 I11 => fin I11 nx
  exact codeAny_compStart_list loop (T.self X.A 0 _ _ _ st4 loop)

/-- as a value -/
theorem pe_lcH {elt tg iter : Expr} {ifs : List Expr} {scope : Scope} {own : List (Str × Nat)} {pos : Pos} {wi : TI} {g : TG} {tt : TT} {te : TE} (hc : HotC X) (hN : X.N.Nodup) (hi : PIH X tg iter wi) (ok : BlkOk X.N X.env.scope scope own)
    (hg : ∀ (s : Shared) (H : Hp) (C : Addr) (cl : List (Str × Addr)) (fp : List Addr), PG (X.blkH s H scope (compEnvC scope cl C X.env) fp) tg g) (ht : ∀ (s : Shared) (H : Hp) (C : Addr) (cl : List (Str × Addr)) (fp : List Addr), PTs (X.blkH s H scope (compEnvC scope cl C X.env) fp) ifs tt)
    (he : ∀ (s : Shared) (H : Hp) (C : Addr) (cl : List (Str × Addr)) (fp : List Addr), PE (X.blkH s H scope (compEnvC scope cl C X.env) fp) elt te) (hs : ∀ x, foldedSetIterable iter X.env x = pure x := by intro _; rfl) :
    PE X (.ListComp elt [⟨tg, iter, ifs, 0⟩] scope pos) (tLc wi g tt te (own.map (·.2))) := by
  refine ⟨fun pins s σ H Q I h => ?_⟩
  rw [eval_ListComp]
  refine lc_coreH hc hN I hi ok hg ht he hs h fun D C s' m H' I' q hn f => ⟨m, hn, fun h'' sb => ?_⟩
  obtain ⟨f0, f1, f2, f3, f4, f5⟩ := f
  exact ⟨.ref D, H', I'.turned (t' := s'.toks) (fun b o hb e => (sb.2 b hb).trans e) f0 f1 f3 f4 f5, rfl, q⟩
end
end L2E

set_option Elab.async false
set_option linter.all false
set_option maxRecDepth 100000
set_option maxHeartbeats 4000000
namespace W8
open PySem L2 L2E
theorem same_upd {H H' : Hp} {D : Addr} {o : HO} (s : Same H H') (n : H D = none) : Same H (upd H' D o) := fun b u e => by
  rw [upd_ne (ne_of_none e n)]
  exact s b u e
/-- the classes that _law_classes asks about, but the first -/
structure ClsT (mg : Str → Option Value) (c : Nat → Addr) : Prop where
  mToolError : mg "ToolError" = some (.ref (c 1))
  mLettersError : mg "LettersError" = some (.ref (c 2))
  mMixedLetters : mg "MixedLetters" = some (.ref (c 3))
  mTableError : mg "TableError" = some (.ref (c 4))
  mActionError : mg "ActionError" = some (.ref (c 5))
  mLassoError : mg "LassoError" = some (.ref (c 6))
  mLetterError : mg "LetterError" = some (.ref (c 7))
  mStateError : mg "StateError" = some (.ref (c 8))
  mRowError : mg "RowError" = some (.ref (c 9))
  mNotStarFree : mg "NotStarFree" = some (.ref (c 10))
  mTextError : mg "TextError" = some (.ref (c 11))
  mNameFault : mg "NameFault" = some (.ref (c 12))
  mLineError : mg "LineError" = some (.ref (c 13))
  mCountsError : mg "CountsError" = some (.ref (c 14))
  mLimitError : mg "LimitError" = some (.ref (c 15))
  mTooManyStates : mg "TooManyStates" = some (.ref (c 16))
  mTooManyActions : mg "TooManyActions" = some (.ref (c 17))
  mTooManyRows : mg "TooManyRows" = some (.ref (c 18))
def clsNames : List Str := ["ValueError", "ToolError", "LettersError", "MixedLetters", "TableError", "ActionError", "LassoError", "LetterError", "StateError", "RowError", "NotStarFree", "TextError", "NameFault", "LineError", "CountsError", "LimitError", "TooManyStates", "TooManyActions", "TooManyRows"]
def clsVals (c : Nat → Addr) : List Value := [.type "ValueError", .ref (c 1), .ref (c 2), .ref (c 3), .ref (c 4), .ref (c 5), .ref (c 6), .ref (c 7), .ref (c 8), .ref (c 9), .ref (c 10), .ref (c 11), .ref (c 12), .ref (c 13), .ref (c 14), .ref (c 15), .ref (c 16), .ref (c 17), .ref (c 18)]
/-- the exception of the class at D is of these classes -/
def IsOf (K : PySem.W.Frag) (c : Nat → Addr) (D : Addr) (bs : List Bool) : Prop := Paired (fun v b => PySem.W.kitOne K (.ref D) v = some b) (clsVals c) bs
def pick (ns : List Str) (bs : List Bool) : List Str := ((ns.zip bs).filter (·.2)).map (·.1)
abbrev sClasses : Stmt := top 62
theorem scClasses : FnScope ["e", "names", "flags", "k"] ["e"] (defScope sClasses) := ⟨rfl, rfl, rfl, by decide +kernel, rfl, by decide +kernel, by decide +kernel⟩
def spClasses (K : PySem.W.Frag) (c : Nat → Addr) : SpE := fun a cls d vs H Q _ => ∃ (D : Addr) (bs : List Bool), vs = [.ref a] ∧ cls = .ref D ∧ ExcC K D ∧ IsOf K c D bs ∧ (∀ dd, d = some dd → ∃ fs, H dd = some (.xd fs)) ∧
  ∀ l H', Same H H' → H' l = some (.lst ((pick clsNames bs).map V.str)) → Q (.ref l) H'
theorem pick_step {ns : List Str} {bs : List Bool} {i : Nat} {n : Str} {b : Bool} (h1 : ns[i]? = some n) (h2 : bs[i]? = some b) : ((((ns.zip bs).take (i + 1)).filter (·.2)).map (·.1)) = (((ns.zip bs).take i).filter (·.2)).map (·.1) ++ if b then [n] else [] := by
  have e : (ns.zip bs)[i]? = some (n, b) := by rw [List.getElem?_zip_eq_some]; exact ⟨h1, h2⟩
  rw [List.take_add_one, e, List.filter_append, List.map_append]
  cases b <;> rfl
theorem paired_cons {α β : Type} {R : α → β → Prop} {x : α} {xs : List α} {ys : List β} (h : Paired R (x :: xs) ys) : ∃ y zs, ys = y :: zs ∧ R x y ∧ Paired R xs zs := by
  cases h with
  | cons a b => exact ⟨_, _, rfl, a, b⟩
theorem paired_nil {α β : Type} {R : α → β → Prop} {ys : List β} (h : Paired R [] ys) : ys = [] := by
  cases h
  rfl
theorem xd_mono {H H' : Hp} {d : Option Addr} (s : Same H H') (h : ∀ dd, d = some dd → ∃ fs, H dd = some (.xd fs)) : ∀ dd, d = some dd → ∃ fs, H' dd = some (.xd fs) := fun dd e => by
  obtain ⟨fs, q⟩ := h dd e
  exact ⟨fs, s _ _ q⟩
section
variable {P : Program} {w : World} {K : PySem.W.Frag} {mg : Str → Option Value} {base : Heap}
theorem ok_classes {c : Nat → Addr} {f : Addr} {fd : FuncData} (F : Fun K "_law_classes" "_law_classes" sClasses f fd) (T : ClsT mg c) (S : SameT mg) (tv : mg "ValueError" = none) : FnE P w K mg base 1 f fd ["e"] (spClasses K c) := by
  obtain ⟨oc, od, kV, doc, pm, an, cdv, ct, osl, rfl, lk, hcd⟩ := F.ex
  refine fn_ofE lk hcd scClasses (fun a cls d vs H Q E h => ?_) (fun A outer s H vs Q E p cls d hot hz hr h => ?_)
  · obtain ⟨D, bs, rfl, _⟩ := h
    rfl
  obtain ⟨D, bs, rfl, rfl, hD, hbs, hd, q⟩ := h
  unfold IsOf clsVals at hbs
  obtain ⟨b0, bs, rfl, k0, hbs⟩ := paired_cons hbs
  obtain ⟨b1, bs, rfl, k1, hbs⟩ := paired_cons hbs
  obtain ⟨b2, bs, rfl, k2, hbs⟩ := paired_cons hbs
  obtain ⟨b3, bs, rfl, k3, hbs⟩ := paired_cons hbs
  obtain ⟨b4, bs, rfl, k4, hbs⟩ := paired_cons hbs
  obtain ⟨b5, bs, rfl, k5, hbs⟩ := paired_cons hbs
  obtain ⟨b6, bs, rfl, k6, hbs⟩ := paired_cons hbs
  obtain ⟨b7, bs, rfl, k7, hbs⟩ := paired_cons hbs
  obtain ⟨b8, bs, rfl, k8, hbs⟩ := paired_cons hbs
  obtain ⟨b9, bs, rfl, k9, hbs⟩ := paired_cons hbs
  obtain ⟨b10, bs, rfl, k10, hbs⟩ := paired_cons hbs
  obtain ⟨b11, bs, rfl, k11, hbs⟩ := paired_cons hbs
  obtain ⟨b12, bs, rfl, k12, hbs⟩ := paired_cons hbs
  obtain ⟨b13, bs, rfl, k13, hbs⟩ := paired_cons hbs
  obtain ⟨b14, bs, rfl, k14, hbs⟩ := paired_cons hbs
  obtain ⟨b15, bs, rfl, k15, hbs⟩ := paired_cons hbs
  obtain ⟨b16, bs, rfl, k16, hbs⟩ := paired_cons hbs
  obtain ⟨b17, bs, rfl, k17, hbs⟩ := paired_cons hbs
  obtain ⟨b18, bs, rfl, k18, hbs⟩ := paired_cons hbs
  obtain rfl := paired_nil hbs
  obtain ⟨fv, hfv, hctx⟩ := hot.2
  have hc : L2H.HotC (L2H.cxH CX0 P w K mg base ["e", "names", "flags", "k"] "_law_classes" (defScope sClasses) f cdv A outer s H E p) := ⟨p, ⟨hot.1, hot.2⟩, List.mem_cons_self⟩
  have isx : CallR (L2H.cxH CX0 P w K mg base ["e", "names", "flags", "k"] "_law_classes" (defScope sClasses) f cdv A outer s H E p) (.builtin "isinstance") (rIsX K D p.1 d) := call_isX hD hz.zc ⟨fv, hfv⟩ List.mem_cons_self
  refine ⟨_, (pss_cons (ps_set (i := 1) scClasses.nd rfl (Or.inr rfl) (pe_lst (pa_cons pe_str (pa_cons pe_str (pa_cons pe_str (pa_cons pe_str (pa_cons pe_str (pa_cons pe_str (pa_cons pe_str pa_nil)))))))))
    (pss_cons (ps_set (i := 2) scClasses.nd rfl (Or.inr rfl) (pe_lst (pa_cons (pe_callB isx (by rfl) S.isinstance (by decide +kernel) (pa_cons (pv 0) (pa_cons (pe_bltn (v := .ty "ValueError") (by rfl) tv (by decide +kernel) rfl) pa_nil))) (pa_cons (pe_callB isx (by rfl) S.isinstance (by decide +kernel) (pa_cons (pv 0) (pa_cons (pe_glob (v := .ref (c 1)) rfl T.mToolError rfl) pa_nil))) (pa_cons (pe_callB isx (by rfl) S.isinstance (by decide +kernel) (pa_cons (pv 0) (pa_cons (pe_glob (v := .ref (c 2)) rfl T.mLettersError rfl) pa_nil))) pa_nil)))))
    (pss_cons (ps_set (i := 2) scClasses.nd rfl (Or.inr rfl) (pe_op op_cat (pv 2) (pe_lst (pa_cons (pe_callB isx (by rfl) S.isinstance (by decide +kernel) (pa_cons (pv 0) (pa_cons (pe_glob (v := .ref (c 3)) rfl T.mMixedLetters rfl) pa_nil))) (pa_cons (pe_callB isx (by rfl) S.isinstance (by decide +kernel) (pa_cons (pv 0) (pa_cons (pe_glob (v := .ref (c 4)) rfl T.mTableError rfl) pa_nil))) (pa_cons (pe_callB isx (by rfl) S.isinstance (by decide +kernel) (pa_cons (pv 0) (pa_cons (pe_glob (v := .ref (c 5)) rfl T.mActionError rfl) pa_nil))) pa_nil))))))
    (pss_cons (ps_set (i := 2) scClasses.nd rfl (Or.inr rfl) (pe_op op_cat (pv 2) (pe_lst (pa_cons (pe_callB isx (by rfl) S.isinstance (by decide +kernel) (pa_cons (pv 0) (pa_cons (pe_glob (v := .ref (c 6)) rfl T.mLassoError rfl) pa_nil))) pa_nil))))
    (pss_cons (ps_set (i := 1) scClasses.nd rfl (Or.inr rfl) (pe_op op_cat (pv 1) (pe_lst (pa_cons pe_str (pa_cons pe_str (pa_cons pe_str (pa_cons pe_str (pa_cons pe_str (pa_cons pe_str (pa_cons pe_str pa_nil))))))))))
    (pss_cons (ps_set (i := 2) scClasses.nd rfl (Or.inr rfl) (pe_op op_cat (pv 2) (pe_lst (pa_cons (pe_callB isx (by rfl) S.isinstance (by decide +kernel) (pa_cons (pv 0) (pa_cons (pe_glob (v := .ref (c 7)) rfl T.mLetterError rfl) pa_nil))) (pa_cons (pe_callB isx (by rfl) S.isinstance (by decide +kernel) (pa_cons (pv 0) (pa_cons (pe_glob (v := .ref (c 8)) rfl T.mStateError rfl) pa_nil))) (pa_cons (pe_callB isx (by rfl) S.isinstance (by decide +kernel) (pa_cons (pv 0) (pa_cons (pe_glob (v := .ref (c 9)) rfl T.mRowError rfl) pa_nil))) pa_nil))))))
    (pss_cons (ps_set (i := 2) scClasses.nd rfl (Or.inr rfl) (pe_op op_cat (pv 2) (pe_lst (pa_cons (pe_callB isx (by rfl) S.isinstance (by decide +kernel) (pa_cons (pv 0) (pa_cons (pe_glob (v := .ref (c 10)) rfl T.mNotStarFree rfl) pa_nil))) (pa_cons (pe_callB isx (by rfl) S.isinstance (by decide +kernel) (pa_cons (pv 0) (pa_cons (pe_glob (v := .ref (c 11)) rfl T.mTextError rfl) pa_nil))) (pa_cons (pe_callB isx (by rfl) S.isinstance (by decide +kernel) (pa_cons (pv 0) (pa_cons (pe_glob (v := .ref (c 12)) rfl T.mNameFault rfl) pa_nil))) pa_nil))))))
    (pss_cons (ps_set (i := 2) scClasses.nd rfl (Or.inr rfl) (pe_op op_cat (pv 2) (pe_lst (pa_cons (pe_callB isx (by rfl) S.isinstance (by decide +kernel) (pa_cons (pv 0) (pa_cons (pe_glob (v := .ref (c 13)) rfl T.mLineError rfl) pa_nil))) pa_nil))))
    (pss_cons (ps_set (i := 1) scClasses.nd rfl (Or.inr rfl) (pe_op op_cat (pv 1) (pe_lst (pa_cons pe_str (pa_cons pe_str (pa_cons pe_str (pa_cons pe_str (pa_cons pe_str pa_nil))))))))
    (pss_cons (ps_set (i := 2) scClasses.nd rfl (Or.inr rfl) (pe_op op_cat (pv 2) (pe_lst (pa_cons (pe_callB isx (by rfl) S.isinstance (by decide +kernel) (pa_cons (pv 0) (pa_cons (pe_glob (v := .ref (c 14)) rfl T.mCountsError rfl) pa_nil))) (pa_cons (pe_callB isx (by rfl) S.isinstance (by decide +kernel) (pa_cons (pv 0) (pa_cons (pe_glob (v := .ref (c 15)) rfl T.mLimitError rfl) pa_nil))) (pa_cons (pe_callB isx (by rfl) S.isinstance (by decide +kernel) (pa_cons (pv 0) (pa_cons (pe_glob (v := .ref (c 16)) rfl T.mTooManyStates rfl) pa_nil))) pa_nil))))))
    (pss_cons (ps_set (i := 2) scClasses.nd rfl (Or.inr rfl) (pe_op op_cat (pv 2) (pe_lst (pa_cons (pe_callB isx (by rfl) S.isinstance (by decide +kernel) (pa_cons (pv 0) (pa_cons (pe_glob (v := .ref (c 17)) rfl T.mTooManyActions rfl) pa_nil))) (pa_cons (pe_callB isx (by rfl) S.isinstance (by decide +kernel) (pa_cons (pv 0) (pa_cons (pe_glob (v := .ref (c 18)) rfl T.mTooManyRows rfl) pa_nil))) pa_nil)))))
    (pss_one (ps_ret (pe_lcH (own := [("k", 3)]) (g := gName 3) (tt := tTest (tOp (rIxL K) (tVar 2) (tVar 3))) hc scClasses.nd (L2H.pi_range1H (by rfl) S.range (pa_cons (pB1 call_len_seq S.len (pv 1)) pa_nil)) (blkOk_by (own := [("k", 3)]) (N := ["e", "names", "flags", "k"]) (sc := defScope sClasses) (by decide +kernel)) (fun _ _ _ _ _ => (pg_name (i := 3) scClasses.nd rfl (Or.inl rfl))) (fun _ _ _ _ _ => (pts_one (pt_val (pe_ix (r := rIxL K) ix_list (pv 2) (pv 3) (fun _ _ => rfl))))) (fun _ _ _ _ _ => (pe_ix (r := rIxL K) ix_list (pv 1) (pv 3) (fun _ _ => rfl))))))))))))))))), ?_⟩
  refine ⟨by show 7 ≤ sizeLine; decide, fun l0 hl0 => ?_⟩
  generalize eq1 : upd H l0 _ = H1
  have s1 : Same H H1 := eq1 ▸ same_new hl0 _
  have h1 : H1 l0 = some (.lst [.str "ValueError", .str "ToolError", .str "LettersError", .str "MixedLetters", .str "TableError", .str "ActionError", .str "LassoError"]) := eq1 ▸ upd_same
  have t1 : Same H H1 := s1
  clear eq1 hl0
  refine ⟨_, rfl, _, _, _, rfl, (fun _ r => r), k0, (xd_mono t1 hd), _, rfl, _, _, _, rfl, (fun _ r => r), k1, (xd_mono t1 hd), _, rfl, _, _, _, rfl, (fun _ r => r), k2, (xd_mono t1 hd), by show 3 ≤ sizeLine; decide, fun l1 hl1 => ?_⟩
  generalize eq2 : upd H1 l1 _ = H2
  have s2 : Same H1 H2 := eq2 ▸ same_new hl1 _
  have h2 : H2 l1 = some (.lst [.bl b0, .bl b1, .bl b2]) := eq2 ▸ upd_same
  have t2 : Same H H2 := t1.trans s2
  clear eq2 hl1
  have g3 := s2 _ _ h1
  refine ⟨_, rfl, _, rfl, _, _, _, rfl, (fun _ r => r), k3, (xd_mono t2 hd), _, rfl, _, _, _, rfl, (fun _ r => r), k4, (xd_mono t2 hd), _, rfl, _, _, _, rfl, (fun _ r => r), k5, (xd_mono t2 hd), by show 3 ≤ sizeLine; decide, fun l2 hl2 => ?_⟩
  generalize eq4 : upd H2 l2 _ = H4
  have s4 : Same H2 H4 := eq4 ▸ same_new hl2 _
  have h4 : H4 l2 = some (.lst [.bl b3, .bl b4, .bl b5]) := eq4 ▸ upd_same
  have t4 : Same H H4 := t2.trans s4
  clear eq4 hl2
  have g5 := s4 _ _ g3
  have g6 := s4 _ _ h2
  refine ⟨l1, l2, [.bl b0, .bl b1, .bl b2], [.bl b3, .bl b4, .bl b5], rfl, rfl, g6, h4, by show 6 ≤ sizeLine; decide, fun r2 hr2 => ?_⟩
  generalize eq7 : upd H4 r2 _ = H7
  have s7 : Same H4 H7 := eq7 ▸ same_new hr2 _
  have h7 : H7 r2 = some (.lst [.bl b0, .bl b1, .bl b2, .bl b3, .bl b4, .bl b5]) := eq7 ▸ upd_same
  have t7 : Same H H7 := t4.trans s7
  clear eq7 hr2
  have g8 := s7 _ _ g5
  refine ⟨_, rfl, _, rfl, _, _, _, rfl, (fun _ r => r), k6, (xd_mono t7 hd), by show 1 ≤ sizeLine; decide, fun l3 hl3 => ?_⟩
  generalize eq9 : upd H7 l3 _ = H9
  have s9 : Same H7 H9 := eq9 ▸ same_new hl3 _
  have h9 : H9 l3 = some (.lst [.bl b6]) := eq9 ▸ upd_same
  have t9 : Same H H9 := t7.trans s9
  clear eq9 hl3
  have g10 := s9 _ _ g8
  have g11 := s9 _ _ h7
  refine ⟨r2, l3, [.bl b0, .bl b1, .bl b2, .bl b3, .bl b4, .bl b5], [.bl b6], rfl, rfl, g11, h9, by show 7 ≤ sizeLine; decide, fun r3 hr3 => ?_⟩
  generalize eq12 : upd H9 r3 _ = H12
  have s12 : Same H9 H12 := eq12 ▸ same_new hr3 _
  have h12 : H12 r3 = some (.lst [.bl b0, .bl b1, .bl b2, .bl b3, .bl b4, .bl b5, .bl b6]) := eq12 ▸ upd_same
  have t12 : Same H H12 := t9.trans s12
  clear eq12 hr3
  have g13 := s12 _ _ g10
  refine ⟨_, rfl, by show 7 ≤ sizeLine; decide, fun l4 hl4 => ?_⟩
  generalize eq14 : upd H12 l4 _ = H14
  have s14 : Same H12 H14 := eq14 ▸ same_new hl4 _
  have h14 : H14 l4 = some (.lst [.str "LetterError", .str "StateError", .str "RowError", .str "NotStarFree", .str "TextError", .str "NameFault", .str "LineError"]) := eq14 ▸ upd_same
  have t14 : Same H H14 := t12.trans s14
  clear eq14 hl4
  have g15 := s14 _ _ g13
  have g16 := s14 _ _ h12
  refine ⟨l0, l4, [.str "ValueError", .str "ToolError", .str "LettersError", .str "MixedLetters", .str "TableError", .str "ActionError", .str "LassoError"], [.str "LetterError", .str "StateError", .str "RowError", .str "NotStarFree", .str "TextError", .str "NameFault", .str "LineError"], rfl, rfl, g15, h14, by show 14 ≤ sizeLine; decide, fun r4 hr4 => ?_⟩
  generalize eq17 : upd H14 r4 _ = H17
  have s17 : Same H14 H17 := eq17 ▸ same_new hr4 _
  have h17 : H17 r4 = some (.lst [.str "ValueError", .str "ToolError", .str "LettersError", .str "MixedLetters", .str "TableError", .str "ActionError", .str "LassoError", .str "LetterError", .str "StateError", .str "RowError", .str "NotStarFree", .str "TextError", .str "NameFault", .str "LineError"]) := eq17 ▸ upd_same
  have t17 : Same H H17 := t14.trans s17
  clear eq17 hr4
  have g18 := s17 _ _ g16
  refine ⟨_, rfl, _, rfl, _, _, _, rfl, (fun _ r => r), k7, (xd_mono t17 hd), _, rfl, _, _, _, rfl, (fun _ r => r), k8, (xd_mono t17 hd), _, rfl, _, _, _, rfl, (fun _ r => r), k9, (xd_mono t17 hd), by show 3 ≤ sizeLine; decide, fun l5 hl5 => ?_⟩
  generalize eq19 : upd H17 l5 _ = H19
  have s19 : Same H17 H19 := eq19 ▸ same_new hl5 _
  have h19 : H19 l5 = some (.lst [.bl b7, .bl b8, .bl b9]) := eq19 ▸ upd_same
  have t19 : Same H H19 := t17.trans s19
  clear eq19 hl5
  have g20 := s19 _ _ h17
  have g21 := s19 _ _ g18
  refine ⟨r3, l5, [.bl b0, .bl b1, .bl b2, .bl b3, .bl b4, .bl b5, .bl b6], [.bl b7, .bl b8, .bl b9], rfl, rfl, g21, h19, by show 10 ≤ sizeLine; decide, fun r5 hr5 => ?_⟩
  generalize eq22 : upd H19 r5 _ = H22
  have s22 : Same H19 H22 := eq22 ▸ same_new hr5 _
  have h22 : H22 r5 = some (.lst [.bl b0, .bl b1, .bl b2, .bl b3, .bl b4, .bl b5, .bl b6, .bl b7, .bl b8, .bl b9]) := eq22 ▸ upd_same
  have t22 : Same H H22 := t19.trans s22
  clear eq22 hr5
  have g23 := s22 _ _ g20
  refine ⟨_, rfl, _, rfl, _, _, _, rfl, (fun _ r => r), k10, (xd_mono t22 hd), _, rfl, _, _, _, rfl, (fun _ r => r), k11, (xd_mono t22 hd), _, rfl, _, _, _, rfl, (fun _ r => r), k12, (xd_mono t22 hd), by show 3 ≤ sizeLine; decide, fun l6 hl6 => ?_⟩
  generalize eq24 : upd H22 l6 _ = H24
  have s24 : Same H22 H24 := eq24 ▸ same_new hl6 _
  have h24 : H24 l6 = some (.lst [.bl b10, .bl b11, .bl b12]) := eq24 ▸ upd_same
  have t24 : Same H H24 := t22.trans s24
  clear eq24 hl6
  have g25 := s24 _ _ g23
  have g26 := s24 _ _ h22
  refine ⟨r5, l6, [.bl b0, .bl b1, .bl b2, .bl b3, .bl b4, .bl b5, .bl b6, .bl b7, .bl b8, .bl b9], [.bl b10, .bl b11, .bl b12], rfl, rfl, g26, h24, by show 13 ≤ sizeLine; decide, fun r6 hr6 => ?_⟩
  generalize eq27 : upd H24 r6 _ = H27
  have s27 : Same H24 H27 := eq27 ▸ same_new hr6 _
  have h27 : H27 r6 = some (.lst [.bl b0, .bl b1, .bl b2, .bl b3, .bl b4, .bl b5, .bl b6, .bl b7, .bl b8, .bl b9, .bl b10, .bl b11, .bl b12]) := eq27 ▸ upd_same
  have t27 : Same H H27 := t24.trans s27
  clear eq27 hr6
  have g28 := s27 _ _ g25
  refine ⟨_, rfl, _, rfl, _, _, _, rfl, (fun _ r => r), k13, (xd_mono t27 hd), by show 1 ≤ sizeLine; decide, fun l7 hl7 => ?_⟩
  generalize eq29 : upd H27 l7 _ = H29
  have s29 : Same H27 H29 := eq29 ▸ same_new hl7 _
  have h29 : H29 l7 = some (.lst [.bl b13]) := eq29 ▸ upd_same
  have t29 : Same H H29 := t27.trans s29
  clear eq29 hl7
  have g30 := s29 _ _ g28
  have g31 := s29 _ _ h27
  refine ⟨r6, l7, [.bl b0, .bl b1, .bl b2, .bl b3, .bl b4, .bl b5, .bl b6, .bl b7, .bl b8, .bl b9, .bl b10, .bl b11, .bl b12], [.bl b13], rfl, rfl, g31, h29, by show 14 ≤ sizeLine; decide, fun r7 hr7 => ?_⟩
  generalize eq32 : upd H29 r7 _ = H32
  have s32 : Same H29 H32 := eq32 ▸ same_new hr7 _
  have h32 : H32 r7 = some (.lst [.bl b0, .bl b1, .bl b2, .bl b3, .bl b4, .bl b5, .bl b6, .bl b7, .bl b8, .bl b9, .bl b10, .bl b11, .bl b12, .bl b13]) := eq32 ▸ upd_same
  have t32 : Same H H32 := t29.trans s32
  clear eq32 hr7
  have g33 := s32 _ _ g30
  refine ⟨_, rfl, by show 5 ≤ sizeLine; decide, fun l8 hl8 => ?_⟩
  generalize eq34 : upd H32 l8 _ = H34
  have s34 : Same H32 H34 := eq34 ▸ same_new hl8 _
  have h34 : H34 l8 = some (.lst [.str "CountsError", .str "LimitError", .str "TooManyStates", .str "TooManyActions", .str "TooManyRows"]) := eq34 ▸ upd_same
  have t34 : Same H H34 := t32.trans s34
  clear eq34 hl8
  have g35 := s34 _ _ g33
  have g36 := s34 _ _ h32
  refine ⟨r4, l8, [.str "ValueError", .str "ToolError", .str "LettersError", .str "MixedLetters", .str "TableError", .str "ActionError", .str "LassoError", .str "LetterError", .str "StateError", .str "RowError", .str "NotStarFree", .str "TextError", .str "NameFault", .str "LineError"], [.str "CountsError", .str "LimitError", .str "TooManyStates", .str "TooManyActions", .str "TooManyRows"], rfl, rfl, g35, h34, by show 19 ≤ sizeLine; decide, fun r8 hr8 => ?_⟩
  generalize eq37 : upd H34 r8 _ = H37
  have s37 : Same H34 H37 := eq37 ▸ same_new hr8 _
  have h37 : H37 r8 = some (.lst [.str "ValueError", .str "ToolError", .str "LettersError", .str "MixedLetters", .str "TableError", .str "ActionError", .str "LassoError", .str "LetterError", .str "StateError", .str "RowError", .str "NotStarFree", .str "TextError", .str "NameFault", .str "LineError", .str "CountsError", .str "LimitError", .str "TooManyStates", .str "TooManyActions", .str "TooManyRows"]) := eq37 ▸ upd_same
  have t37 : Same H H37 := t34.trans s37
  clear eq37 hr8
  have g38 := s37 _ _ g36
  refine ⟨_, rfl, _, rfl, _, _, _, rfl, (fun _ r => r), k14, (xd_mono t37 hd), _, rfl, _, _, _, rfl, (fun _ r => r), k15, (xd_mono t37 hd), _, rfl, _, _, _, rfl, (fun _ r => r), k16, (xd_mono t37 hd), by show 3 ≤ sizeLine; decide, fun l9 hl9 => ?_⟩
  generalize eq39 : upd H37 l9 _ = H39
  have s39 : Same H37 H39 := eq39 ▸ same_new hl9 _
  have h39 : H39 l9 = some (.lst [.bl b14, .bl b15, .bl b16]) := eq39 ▸ upd_same
  have t39 : Same H H39 := t37.trans s39
  clear eq39 hl9
  have g40 := s39 _ _ h37
  have g41 := s39 _ _ g38
  refine ⟨r7, l9, [.bl b0, .bl b1, .bl b2, .bl b3, .bl b4, .bl b5, .bl b6, .bl b7, .bl b8, .bl b9, .bl b10, .bl b11, .bl b12, .bl b13], [.bl b14, .bl b15, .bl b16], rfl, rfl, g41, h39, by show 17 ≤ sizeLine; decide, fun r9 hr9 => ?_⟩
  generalize eq42 : upd H39 r9 _ = H42
  have s42 : Same H39 H42 := eq42 ▸ same_new hr9 _
  have h42 : H42 r9 = some (.lst [.bl b0, .bl b1, .bl b2, .bl b3, .bl b4, .bl b5, .bl b6, .bl b7, .bl b8, .bl b9, .bl b10, .bl b11, .bl b12, .bl b13, .bl b14, .bl b15, .bl b16]) := eq42 ▸ upd_same
  have t42 : Same H H42 := t39.trans s42
  clear eq42 hr9
  have g43 := s42 _ _ g40
  refine ⟨_, rfl, _, rfl, _, _, _, rfl, (fun _ r => r), k17, (xd_mono t42 hd), _, rfl, _, _, _, rfl, (fun _ r => r), k18, (xd_mono t42 hd), by show 2 ≤ sizeLine; decide, fun l10 hl10 => ?_⟩
  generalize eq44 : upd H42 l10 _ = H44
  have s44 : Same H42 H44 := eq44 ▸ same_new hl10 _
  have h44 : H44 l10 = some (.lst [.bl b17, .bl b18]) := eq44 ▸ upd_same
  have t44 : Same H H44 := t42.trans s44
  clear eq44 hl10
  have g45 := s44 _ _ g43
  have g46 := s44 _ _ h42
  refine ⟨r9, l10, [.bl b0, .bl b1, .bl b2, .bl b3, .bl b4, .bl b5, .bl b6, .bl b7, .bl b8, .bl b9, .bl b10, .bl b11, .bl b12, .bl b13, .bl b14, .bl b15, .bl b16], [.bl b17, .bl b18], rfl, rfl, g46, h44, by show 19 ≤ sizeLine; decide, fun r10 hr10 => ?_⟩
  generalize eq47 : upd H44 r10 _ = H47
  have s47 : Same H44 H47 := eq47 ▸ same_new hr10 _
  have h47 : H47 r10 = some (.lst [.bl b0, .bl b1, .bl b2, .bl b3, .bl b4, .bl b5, .bl b6, .bl b7, .bl b8, .bl b9, .bl b10, .bl b11, .bl b12, .bl b13, .bl b14, .bl b15, .bl b16, .bl b17, .bl b18]) := eq47 ▸ upd_same
  have t47 : Same H H47 := t44.trans s47
  clear eq47 hr10
  have g48 := s47 _ _ g45

  have bsl : [b0, b1, b2, b3, b4, b5, b6, b7, b8, b9, b10, b11, b12, b13, b14, b15, b16, b17, b18].length = 19 := rfl
  have hFl : ∀ {Hc : Hp}, Hc r10 = some (.lst [.bl b0, .bl b1, .bl b2, .bl b3, .bl b4, .bl b5, .bl b6, .bl b7, .bl b8, .bl b9, .bl b10, .bl b11, .bl b12, .bl b13, .bl b14, .bl b15, .bl b16, .bl b17, .bl b18]) → Hc r8 = some (.lst (clsNames.map V.str)) → Same H Hc → (tLc (iRng1 (tCons (tCB (rLenOf K) (tCons (tVar 1) tNil)) tNil)) (gName 3) (tTest (tOp (rIxL K) (tVar 2) (tVar 3))) (tOp (rIxL K) (tVar 1) (tVar 3)) [3]) [some (.ref p.1), some (.ref r8), some (.ref r10), none] Hc Q := by
    intro Hc hF hN sH
    refine ⟨_, rfl, r8, _, rfl, .inl (SqL.of hN), _, rfl, by decide, by decide, fun R hR => ?_⟩
    refine walk_r (fun i H' => Same Hc H' ∧ H' R = some (.lst (((((clsNames.zip [b0, b1, b2, b3, b4, b5, b6, b7, b8, b9, b10, b11, b12, b13, b14, b15, b16, b17, b18]).take i).filter (·.2)).map (·.1)).map V.str))) ⟨same_new hR _, upd_same⟩ ?_ ?_
    · rintro i H1 hi ⟨s1, hR1⟩
      have hi19 : i < 19 := hi
      obtain ⟨b, hb⟩ : ∃ b, [b0, b1, b2, b3, b4, b5, b6, b7, b8, b9, b10, b11, b12, b13, b14, b15, b16, b17, b18][i]? = some b := ⟨_, List.getElem?_eq_getElem (by show i < 19; exact hi19)⟩
      obtain ⟨n, hn⟩ : ∃ n, clsNames[i]? = some n := ⟨_, List.getElem?_eq_getElem (by show i < 19; exact hi19)⟩
      have e1 : V.int (0 + (i : Int)) = V.int (i : Int) := by rw [Int.zero_add]
      refine ⟨rfl, ?_⟩
      refine ⟨_, rfl, _, rfl, r10, _, _, .bl b, rfl, e1, SqL.of (s1 _ _ hF), atI_nat (by show ([b0, b1, b2, b3, b4, b5, b6, b7, b8, b9, b10, b11, b12, b13, b14, b15, b16, b17, b18].map V.bl)[i]? = _; rw [List.getElem?_map, hb]; rfl), b, rfl, ?_⟩
      have ps := pick_step hn hb
      cases b with
      | false =>
        refine ⟨s1, ?_⟩
        rw [hR1, ps]
        simp
      | true =>
        refine ⟨_, rfl, _, rfl, r8, _, _, .str n, rfl, e1, SqL.of (s1 _ _ hN), atI_nat (by rw [List.getElem?_map, hn]; rfl), _, hR1, small_lt ?_, same_upd s1 hR, ?_⟩
        · rw [List.length_map, List.length_map]
          refine Nat.lt_of_le_of_lt (List.length_filter_le _ _) ?_
          rw [List.length_take]
          omega
        · rw [upd_same, ps, List.map_append]
          rfl
    · rintro H1 ⟨s1, hR1⟩
      refine q R H1 (sH.trans s1) ?_
      rw [hR1]
      rfl
  exact hFl h47 g48 t47
end
end W8

set_option Elab.async false
set_option linter.all false
set_option maxRecDepth 100000
set_option maxHeartbeats 4000000
/-! special methods of own classes, by the hand layer -/
namespace L2
open PySem PySem.Spec PyProof.Rows
section
variable {X : Cx} {CX : CXT} {k : Nat} {C f : Addr} {fd : FuncData} {ps : List Str} {sp : Sp} {E : XK}
/-- o[i] = v by __setitem__ -/
def rSetO (C : Addr) (sp : Sp) (E : XK) : TSet := fun o i v H Q => ∃ a dx fs, o = .ref a ∧ H a = some (.ins C dx fs) ∧ sp [.ref a, i, v] H (fun _ H' => Q H') E
theorem set_own (F : FnOk X.prog X.w X.K X.mg X.base CX k f fd ps sp) (hm : Meth X.K C "__setitem__" f) (hq : PySem.W.noSeq X.K C = true) (hb : Binds X.K fd ps []) (hx : Passes CX X E) (hr : Room k X.A) : PSet X (rSetO C sp E) := by
  intro pins s σ H o i v ov iv u Q I ro ri rv h
  obtain ⟨a, dx, fs, rfl, ha, hsp⟩ := h
  cases ro
  obtain ⟨mA, J, _⟩ := ins_get I.hok ha
  obtain ⟨od, J, _⟩ := J.look
  obtain ⟨m, hF⟩ := I.fr
  refine PySem.W.ksp_setItem hF I.ok.mod.kin J hq hm.at_ hm.fn ?_
  exact wpAny_mono (run_fn (ds := []) (dvs := []) (vs := [.ref a, i, v]) F hr hb .nil hx I (.cons rfl (.cons ri (.cons rv .nil))) (by simpa using hsp)) (fun r s' ⟨z, H', I', _, q⟩ => ⟨H', I', q⟩) fun _ _ z => z
/-- o[i] by __getitem__ -/
def rIxO (C : Addr) (sp : Sp) (E : XK) : R2 := fun o i H Q => ∃ a dx fs, o = .ref a ∧ H a = some (.ins C dx fs) ∧ sp [.ref a, i] H Q E
/-- x in o by __contains__ -/
def rInO (neg : Bool) (C : Addr) (sp : Sp) (E : XK) : R2 := fun x o H Q => ∃ a dx fs, o = .ref a ∧ H a = some (.ins C dx fs) ∧ sp [.ref a, x] H (fun v H' => ∃ b, v = .bl b ∧ Q (.bl (if neg = true then !b else b)) H') E
theorem op_in_own (F : FnOk X.prog X.w X.K X.mg X.base CX k f fd ps sp) (hm : Meth X.K C "__contains__" f) (hb : Binds X.K fd ps []) (hx : Passes CX X E) (hr : Room k X.A) : OpR X (compareOp .In) (rInO false C sp E) := by
  intro pins s σ H x o v u Q I rx ro h
  obtain ⟨a, dx, fs, rfl, ha, hsp⟩ := h
  cases ro
  obtain ⟨mA, J, _⟩ := ins_get I.hok ha
  obtain ⟨od, J, _⟩ := J.look
  obtain ⟨m, hF⟩ := I.fr
  refine PySem.W.in_K hF I.ok.mod.kin J hm.at_ hm.fn ?_
  refine wpAny_mono (run_fn (ds := []) (dvs := []) (vs := [.ref a, x]) (Q := fun v H' => ∃ b, v = .bl b ∧ Q (.bl (b)) H') F hr hb .nil hx I (.cons rfl (.cons rx .nil)) (by simpa using hsp)) (fun r s' ⟨z, H', I', rz, b, ez, q⟩ => ?_) fun _ _ z => z
  subst ez
  cases rz
  exact wpAny_pure ⟨.bl b, H', I', rfl, q⟩
theorem op_notIn_own (F : FnOk X.prog X.w X.K X.mg X.base CX k f fd ps sp) (hm : Meth X.K C "__contains__" f) (hb : Binds X.K fd ps []) (hx : Passes CX X E) (hr : Room k X.A) : OpR X (compareOp .NotIn) (rInO true C sp E) := by
  intro pins s σ H x o v u Q I rx ro h
  obtain ⟨a, dx, fs, rfl, ha, hsp⟩ := h
  cases ro
  obtain ⟨mA, J, _⟩ := ins_get I.hok ha
  obtain ⟨od, J, _⟩ := J.look
  obtain ⟨m, hF⟩ := I.fr
  refine PySem.W.notIn_K hF I.ok.mod.kin J hm.at_ hm.fn ?_
  refine wpAny_mono (run_fn (ds := []) (dvs := []) (vs := [.ref a, x]) (Q := fun v H' => ∃ b, v = .bl b ∧ Q (.bl (!b)) H') F hr hb .nil hx I (.cons rfl (.cons rx .nil)) (by simpa using hsp)) (fun r s' ⟨z, H', I', rz, b, ez, q⟩ => ?_) fun _ _ z => z
  subst ez
  cases rz
  exact wpAny_pure ⟨.bl (!b), H', I', rfl, q⟩
end
/-! ### iter(d) as a value, d a locked dict -/
def kitObj (d : Addr) (n ep : Nat) : Obj := { cls := .type "dict_keyiterator", data := .fields #[.ref d, .int 0 0, .int n 0, .int ep 0] }
/-- at it the iterator over the keys of the dict o at d -/
def KitO (d it : Addr) (o : Obj) : HO := .ext fun h => ∃ es ep, o.data = .dict es ep ∧ h.get? it = some (kitObj d es.size ep)
def rIterD (n : Nat) : List V → Hp → VK → Prop := fun xs H Q => ∃ (d : Addr) (o : Obj) (kvs : List (Key × V)), xs = [.ref d] ∧ H d = some (.frz o (.dK kvs)) ∧ ∀ it, H it = none → n ≤ it → Q (.ref it) (upd H it (KitO d it o))
theorem kitO_ok {P : Program} {w : World} {H : Hp} {h : Heap} {d it : Addr} {o : Obj} {es : Array DictEntry} {ep : Nat} (hd : o.data = .dict es ep) (e : h.get? it = some (kitObj d es.size ep)) : ObjOk P w H h it (KitO d it o) :=
  ⟨⟨es, ep, hd, e⟩, ⟨_, e⟩, fun h1 h2 ⟨es1, ep1, q1, q⟩ k => ⟨es1, ep1, q1, k _ q⟩⟩
theorem call_iterD {X : Cx} : CallR X (.builtin "iter") (rIterD X.s_0.heap.objs.size) := by
  intro pins s σ H xs us Q I r h
  obtain ⟨d, o, kvs, rfl, hd, q⟩ := h
  obtain rfl := Vals.ref1 r
  obtain ⟨hs, hgd, hx, es, ep, vs, hdt, hsz, kv, hm⟩ := I.frzK hd
  refine Calls.call_function_entry (by decide +kernel) (by decide +kernel) PySem.W.kdk_entry_iter (PySem.W.kdk_args_iter _) ?_
  unfold Builtin.«iter»
  refine wpAny_bind (m := someArgs "iter" 1 2 _) (wpAny_of_eq (a := [Value.ref d]) (by first | rfl | kernel_rfl!) ?_)
  show wpAny _ _ (pyIter (.ref d) >>= _) _ _ _
  refine wpAny_bind (iter_keys hs hgd hx hdt ?_)
  refine wpAny_pure ⟨_, rfl, ?_⟩
  exact ⟨.ref s.heap.objs.size, _, I.laid (t' := s.toks) (fun b u e => Heap.get?_push_of_some _ e) (Nat.le_refl _) (kitO_ok hdt (Heap.get?_push_size _ rfl)), rfl, q _ (I.hok.fresh (Nat.le_refl _)) I.sz⟩
/-! ### a promise that may speak of how many objects there are -/
structure FnAt (P : Program) (w : World) (K : PySem.W.Frag) (mg : Str → Option Value) (base : Heap) (CX : CXT) (k : Nat) (f : Addr) (fd : FuncData) (ps : List Str) (sp : Nat → Sp) : Prop where
  len : ∀ n vs H Q E, sp n vs H Q E → vs.length = ps.length
  run : ∀ (A : Around) (outer : List Env) (s : Shared) (H : Hp) (args : Args) (us : List Value) (vs : List V) (Q : VK) (E : XK), Room k A → Env0 P w K mg base A outer s H → BindsTo s fd args (ps.zip us) → Vals vs us → sp s.heap.objs.size vs H Q E →
    codeAny (model P w) A (.call (.ref f) args) (CR CX outer P w H s Q E) s
theorem fn_at {CX : CXT} {P : Program} {w : World} {K : PySem.W.Frag} {mg : Str → Option Value} {base : Heap} {k : Nat} {f : Addr} {name qual : Str} {params : Arguments} {body : List Stmt} {scope : Scope} {dV kV doc pm cdv ct oc : Value} {an od : Option Addr}
    {osl : Array (Option Value)} {N ps : List Str} {sp : Nat → Sp} (lk : K.lookup f = some ⟨oc, od, .func (PySem.W.fnOf name qual params body scope dV kV doc pm an cdv ct), osl⟩) (hcd : PySem.W.codeIn K cdv qual = true) (S : FnScope N ps scope)
    (len : ∀ n vs H Q E, sp n vs H Q E → vs.length = ps.length)
    (hbody : ∀ (A : Around) (outer : List Env) (s : Shared) (H : Hp) (vs : List V) (Q : VK) (E : XK), Room k (A.deeper (envOfC qual scope s.heap.objs.size f cdv)) → sp s.heap.objs.size vs H Q E →
      ∃ t, PSs (cxOf CX P w K mg base N qual scope f cdv A outer s H E) body t ∧ t { nx := fun _ H' => Q .non H', rt := Q } (start N vs) H) :
    FnAt P w K mg base CX (k + 1) f (PySem.W.fnOf name qual params body scope dV kV doc pm an cdv ct) ps sp := by
  refine ⟨len, fun A outer s H args us vs Q E hr e0 hb r hsp => ?_⟩
  have hl := len _ _ _ _ _ hsp
  have KX : K.In s.heap := e0.mod.kin.keeps fun b o e => (e0.bs b o e).1
  have lim : s.heap.NoLimit := e0.mod.nolimit.keeps fun b o e => (e0.bs b o e).1
  have hkind : ∀ y ∈ ps.zip us, scope.names.lookup y.1 = some .local ∨ (scope.names.lookup y.1 = some .cell ∧ ((cellsFrom (s.heap.objs.size + 1) scope.names []).lookup y.1).isSome = true) := fun ⟨n, v⟩ hy => by
    rcases S.par n (List.of_mem_zip hy).1 with q | q
    · exact .inl q
    · exact .inr ⟨q, PySem.W.cellsFrom_some _ _ _ (.inl q)⟩
  refine codeAny_call_function hr.depth (KX _ _ lk) rfl S.co S.gen rfl (PySem.W.codeRec_of KX hcd) (hb _ _ _ _ ?_)
  refine wpAny_newFunctionEnv_cells S.kind hkind fun env he s1 x => ?_
  subst he
  refine ⟨lim.keeps x.toInCall.keep, codeAny_func ?_⟩
  obtain ⟨t, ht, hq⟩ := hbody A outer s H vs Q E (hr.deeper _) hsp
  have I : Inv (cxOf CX P w K mg base N qual scope f cdv A outer s H E) [] (start N vs) H s1 := inv_start S hr.hd e0 hl r x
  refine wpAny_mono (ht.run [] s1 (start N vs) H _ I hq) (fun fl s' hs => ?_) fun e s' hs => hs
  have fin : ∀ {σ' : St} {H' : Hp} {v : V} {u : Value}, Inv (cxOf CX P w K mg base N qual scope f cdv A outer s H E) [] σ' H' s' → RelV v u → Q v H' → CE outer P w H s Q u s' :=
    fun {σ' H' v u} J rv q => ⟨v, H', J.os, J.bare, J.base, J.hok, rv, q⟩
  cases fl with
  | ret u =>
    obtain ⟨v, σ', H', J, rv, q⟩ := hs
    exact fin J rv q
  | next =>
    obtain ⟨σ', H', J, q⟩ := hs
    exact fin (v := V.non) (u := Value.none) J rfl q
  | brk =>
    obtain ⟨_, _, _, q⟩ := hs
    exact False.elim q
  | cont =>
    obtain ⟨_, _, _, q⟩ := hs
    exact False.elim q
/-! ### for x in o, o's __iter__ gives iter(o.f), f a dict -/
def spIterD (C : Addr) (fl : Str) (n : Nat) : Sp := fun vs H Q _ => ∃ (a dx : Addr) (fs : List (Str × V)) (d : Addr) (o : Obj) (kvs : List (Key × V)), vs = [.ref a] ∧ H a = some (.ins C dx fs) ∧ fs.lookup fl = some (.ref d) ∧ H d = some (.frz o (.dK kvs)) ∧
  ∀ it, H it = none → n ≤ it → Q (.ref it) (upd H it (KitO d it o))
def iOwnD (C : Addr) (fl : Str) (te : TE) : TI := fun σ H R => te σ H fun x H1 => ∃ (a dx : Addr) (fs : List (Str × V)) (d : Addr) (o : Obj) (kvs : List (Key × V)), x = .ref a ∧ H1 a = some (.ins C dx fs) ∧ fs.lookup fl = some (.ref d) ∧ H1 d = some (.frz o (.dK kvs)) ∧ R (Itk d o kvs) H1
section
variable {X : Cx} {CX : CXT} {k : Nat} {C f : Addr} {fd : FuncData} {fl : Str} {tg e : Expr} {te : TE}
/-- o.__iter__() -/
theorem iter_own {A : Around} {pins : List (Addr × Obj)} {σ : St} {H : Hp} {s : Shared} {a dx d : Addr} {fs : List (Str × V)} {o : Obj} {kvs : List (Key × V)} {Q : Value → Shared → Prop} (hA : A.frames = X.A.frames) (hrA : Room k A) (F : FnAt X.prog X.w X.K X.mg X.base CX0 k f fd ["self"] (spIterD C fl)) (hm : Meth X.K C "__iter__" f) (hb : Binds X.K fd ["self"] [])
    (I : Inv X pins σ H s) (ha : H a = some (.ins C dx fs)) (hf : fs.lookup fl = some (.ref d)) (hd : H d = some (.frz o (.dK kvs)))
    (q : ∀ it s', s.heap.objs.size ≤ it → Inv X pins σ (upd H it (KitO d it o)) s' → H it = none → Q (.ref it) s') : wpAny (model X.prog X.w) A (pyIter (.ref a)) Q X.xe s := by
  obtain ⟨mA, J, _⟩ := ins_get I.hok ha
  obtain ⟨od, J, _⟩ := J.look
  obtain ⟨m, hF⟩ := I.fr
  refine PySem.W.owit_iter hF I.ok.mod.kin J hm.at_ hm.fn ?_
  have e0 : Env0 X.prog X.w X.K X.mg X.base A X.stack s H := by
    have e := I.env0
    exact ⟨by rw [hA]; exact e.frames, e.mod, e.bs, e.bsz, e.funs, e.frf, e.hok, e.bare⟩
  refine wpAny_call (codeAny_mono (F.run A X.stack s H ⟨[.ref a], []⟩ [.ref a] [.ref a] (fun v H' => ∃ it, v = .ref it ∧ s.heap.objs.size ≤ it ∧ H it = none ∧ H' = upd H it (KitO d it o)) E0 hrA e0 (by
    have := hb s [.ref a] I.kIn rfl
    simpa using this) (.cons rfl .nil) ⟨a, dx, fs, d, o, kvs, rfl, ha, hf, hd, fun it n1 n2 => ⟨it, rfl, n2, n1, rfl⟩⟩) fun r s' hq => ?_)
  cases r with
  | error e => exact False.elim hq
  | ok fl =>
    cases fl with
    | next => exact False.elim hq
    | brk => exact False.elim hq
    | cont => exact False.elim hq
    | ret u =>
      obtain ⟨v, H', I', rv, it, ev, hn, hi, eH⟩ := I.after hq
      subst ev
      cases rv
      subst eH
      have hk : ∃ es ep, o.data = .dict es ep ∧ s'.heap.get? it = some (kitObj d es.size ep) := (I'.hok it _ upd_same).1
      obtain ⟨es, ep, _, hg⟩ := hk
      have hT : s'.TypeIs (.ref it) "dict_keyiterator" := ⟨_, hg, rfl⟩
      show wpAny _ _ (specialOf (.ref it) "__next__") _ _ _
      refine wpAny_specialOf hT PySem.F.slot_dict_keyiterator_next.lookup ?_
      exact q it s' hn I' hi
theorem pi_ownD (he : PE X e te) (F : FnAt X.prog X.w X.K X.mg X.base CX0 k f fd ["self"] (spIterD C fl)) (hm : Meth X.K C "__iter__" f) (hb : Binds X.K fd ["self"] []) (hr : Room k X.A) : PI X tg e (iOwnD C fl te) := by
  refine ⟨fun pins s σ H R I h => ?_⟩
  refine thn (he.run pins s σ H _ I h) fun u s1 ⟨x, H1, I1, rx, a, dx, fs, d, o, kvs, ex, ha, hf, hd, q⟩ => ?_
  subst ex
  cases rx
  refine iter_own rfl hr F hm hb I1 ha hf hd fun it s2 hn I2 hi => ?_
  obtain ⟨hs, hgd, hx, es, ep, vs, hdt, hsz, kv, hmm⟩ := I1.frzK hd
  have hk : ∃ es ep, o.data = .dict es ep ∧ s2.heap.get? it = some (kitObj d es.size ep) := (I2.hok it _ upd_same).1
  obtain ⟨es2, ep2, hdt2, hg⟩ := hk
  obtain ⟨rfl, rfl⟩ := dict_ep hdt hdt2
  have I3 : Inv X pins σ H1 s2 := by
    have := ItX.inv_drop I2 (a := it) upd_same
    rw [ItX.dropH_upd hi] at this
    exact this
  have st : s2.heap.IsKeyIter it d 0 kvs.length ep2 := ⟨_, hg, rfl, by rw [← hsz]; rfl⟩
  refine ⟨it, [it], _, _, H1, rfl, I3, turn_keys it hdt, st, fun b hb => ?_, q⟩
  have e : b = it := by simpa using hb
  rw [e]
  have := ItX.inv_fp I2 (a := it) upd_same (Nat.le_trans I1.sz hn)
  rw [ItX.dropH_upd hi] at this
  exact this
end
end L2

set_option Elab.async false
set_option linter.all false
set_option maxRecDepth 100000
set_option maxHeartbeats 4000000
namespace W8
open PySem PySem.Spec PyProof.Rows L2 L2E
/-- an error of the class at C with one field may be raised -/
def ErrF (E : XK) (C : Addr) (f : Str) (v : V) (H : Hp) : Prop := ∀ d H', Same H H' → H d = none → H' d = some (.xd [(f, v)]) → E (.ref C) (some d) H'
theorem ErrF.go {E : XK} {C : Addr} {f : Str} {v : V} {H H1 : Hp} {d : Addr} (h : ErrF E C f v H) (s : Same H H1) (n : H1 d = none) : E (.ref C) (some d) (upd H1 d (.xd [(f, v)])) :=
  h d _ (s.trans (same_new n _)) (s.free n) upd_same
theorem ErrF.mono {E : XK} {C : Addr} {f : Str} {v : V} {H H1 : Hp} (h : ErrF E C f v H) (s : Same H H1) : ErrF E C f v H1 := fun d H' s' n e => h d H' (s.trans s') (s.free n) e
/-- a def that may raise, by its name -/
structure CalX (P : Program) (w : World) (K : PySem.W.Frag) (mg : Str → Option Value) (base : Heap) (x : Str) (k : Nat) (ps : List Str) (sp : Sp) : Prop where
  ex : ∃ (f : Addr) (fd : FuncData), FnOk P w K mg base (L2N.CX P w) k f fd ps sp ∧ mg x = some (.ref f) ∧ PySem.W.keepIn K (.ref f) = true ∧ Binds K fd ps []
structure MCalX (P : Program) (w : World) (K : PySem.W.Frag) (mg : Str → Option Value) (base : Heap) (C : Addr) (m : Str) (k : Nat) (ps : List Str) (sp : Sp) : Prop where
  ex : ∃ (f : Addr) (fd : FuncData), FnOk P w K mg base (L2N.CX P w) k f fd ps sp ∧ Meth K C m f ∧ Binds K fd ps []
structure MCal (P : Program) (w : World) (K : PySem.W.Frag) (mg : Str → Option Value) (base : Heap) (C : Addr) (m : Str) (k : Nat) (ps : List Str) (sp : Sp) : Prop where
  ex : ∃ (f : Addr) (fd : FuncData), FnOk P w K mg base CX0 k f fd ps sp ∧ Meth K C m f ∧ Binds K fd ps []
section
variable {X : Cx} {x : Str} {k j : Nat} {ps : List Str} {sp : Sp} {p pos : Pos} {e : Expr} {es : List Expr} {t : TA} {E : XK}
theorem pcallX (C : CalX X.prog X.w X.K X.mg X.base x k ps sp) (hr : Room j X.A) (hx : Passes (L2N.CX X.prog X.w) X E) (ha : PA X (e :: es) t) (hk : k ≤ j := by decide) (hg : Gl X x := by rfl) (hdb : (x == ("__debug__" : Str)) = false := by decide)
    (he : starEach (e :: es) X.env = (false, eval e X.env) :: starEach es X.env := by rfl) (hpl : (backTo pos (starEach es X.env)).any (·.1) = false := by rfl) : PE X (.Call (.Name x p) (e :: es) [] pos) (tCall sp [] E t) := by
  obtain ⟨f, fd, G, hm, kp, b⟩ := C.ex
  exact pe_call G (hr.mono hk) hg hm kp b .nil hx ha hdb he hpl
/-- nothing is let out where nothing may be -/
abbrev EN : XK := fun _ _ _ => False
theorem passN {P : Program} {w : World} {X : Cx} : Passes (L2N.CX P w) X EN := by
  rintro pins σ H s e s' I ⟨a, B, H', cls, d, ea, fl, hok, ub, na, os, ag, he⟩
  exact False.elim he
theorem pcallN (C : CalX X.prog X.w X.K X.mg X.base x k ps sp) (hr : Room j X.A) (ha : PA X (e :: es) t) (hk : k ≤ j := by decide) (hg : Gl X x := by rfl) (hdb : (x == ("__debug__" : Str)) = false := by decide)
    (he : starEach (e :: es) X.env = (false, eval e X.env) :: starEach es X.env := by rfl) (hpl : (backTo pos (starEach es X.env)).any (·.1) = false := by rfl) : PE X (.Call (.Name x p) (e :: es) [] pos) (tCall sp [] EN t) := pcallX C hr passN ha hk hg hdb he hpl
end
section
variable {P : Program} {w : World} {K : PySem.W.Frag} {mg : Str → Option Value} {base : Heap}
theorem okN {x qual : Str} {st : Stmt} {f : Addr} {fd : FuncData} {N ps : List Str} {k : Nat} {sp : Sp} (F : Fun K x qual st f fd) (S : FnScope N ps (defScope st)) (len : ∀ vs H Q E, sp vs H Q E → vs.length = ps.length)
    (hbody : ∀ (cdv : Value) (A : Around) (outer : List Env) (s : Shared) (H : Hp) (vs : List V) (Q : VK) (E : XK), Room k (A.deeper (envOfC qual (defScope st) s.heap.objs.size f cdv)) → sp vs H Q E →
      ∃ t, PSs (cxOf (L2N.CX P w) P w K mg base N qual (defScope st) f cdv A outer s H E) (defBody st) t ∧ t { nx := fun _ H' => Q .non H', rt := Q } (start N vs) H) : FnOk P w K mg base (L2N.CX P w) (k + 1) f fd ps sp := by
  obtain ⟨oc, od, kV, doc, pm, an, cdv, ct, osl, rfl, lk, hcd⟩ := F.ex
  exact fn_of lk hcd S len fun A outer s H vs Q E hr hsp => hbody cdv A outer s H vs Q E hr hsp
end
theorem bind_star {name qual x y : Str} {P : Arguments} {a : Arg} {body : List Stmt} {scope : Scope} {kV doc pm : Value} {an : Option Addr} {cdv ct : Value} (h1 : P.posonlyargs = []) (h2 : P.args.map (·.arg) = [x]) (h3 : P.kwonlyargs = []) (h4 : P.vararg = some a) (h5 : P.kwarg = none) (h6 : a.arg = y) (u : Value) (rest : List Value) :
    bindArgs (PySem.W.fnOf name qual P body scope .none kV doc pm an cdv ct) ⟨[u] ++ rest, []⟩ = (newTuple rest >>= fun t => pure ([x].zip [u] ++ [(y, t)])) := by
  unfold bindArgs
  simp [PySem.W.fnOf, h1, h2, h3, h4, h5, h6, seqItems?]
  rfl
theorem paired_snoc {α β : Type} {F : α → β → Prop} : ∀ {xs : List α} {ys : List β} {x : α} {y : β}, Paired F xs ys → F x y → Paired F (xs ++ [x]) (ys ++ [y])
  | [], [], _, _, .nil, h => .cons h .nil
  | _ :: _, _ :: _, _, _, .cons a b, h => .cons a (paired_snoc b h)
theorem decT {p : Prop} [Decidable p] (h : ¬ (!decide p) = true) : p := by
  cases hh : decide p with
  | true => exact of_decide_eq_true hh
  | false => rw [hh] at h; exact absurd rfl h
theorem decF {p : Prop} [Decidable p] (h : (!decide p) = true) : ¬ p := fun hp => by
  rw [decide_eq_true hp] at h
  cases h
/-! ### o.m(e, ..), m a def with a star -/
section
variable {X : Cx} {CX : CXT} {k : Nat} {C f : Addr} {m : Str} {sp : Sp} {E : XK} {o e : Expr} {es : List Expr} {ta : TE} {t : TA} {pos apos : Pos}
def tMethR (C : Addr) (m : Str) (sp : Sp) (E : XK) (ta : TE) (t : TA) : TE := fun σ H Q => ta σ H fun x H1 => ∃ a dx fs, x = .ref a ∧ H1 a = some (.ins C dx fs) ∧ fs.lookup m = none ∧ t σ H1 fun vs H2 => sp (x :: vs) H2 Q E
theorem pe_methR {pl : Sem Bool} (he : PE X o ta) (c : Cls X.K C) (hm : Meth X.K C m f) (F : FnR X.prog X.w X.K X.mg X.base CX k f sp) (hr : Room k X.A) (hx : Passes CX X E) (ha : PA X (e :: es) t)
    (hst : starEach (e :: es) X.env = (false, eval e X.env) :: starEach es X.env := by rfl) (hpl : (backTo pos (starEach es X.env)).any (·.1) = false := by rfl)
    (ht : eval (.Call (.Attribute o m apos) (e :: es) [] pos) X.env = (do
      let ov ← eval o X.env
      standAt apos.atName
      let (f, first) ← holding [ov] (getMethod ov m pl)
      callWith pos f first (backTo pos (starEach (e :: es) X.env)) (backToKw pos (keywordEach [] X.env))) := by rfl) :
    PE X (.Call (.Attribute o m apos) (e :: es) [] pos) (tMethR C m sp E ta t) := by
  refine ⟨fun pins s σ H Q I h => ?_⟩
  refine PySem.W.methodCall_KW (pl := pl) (thn (he.run pins s σ H _ I h) fun u s1 ⟨x, H1, I1, rx, a, dx, fs, ex, ea, l, q⟩ => ?_) ht
  subst ex
  obtain rfl : u = Value.ref a := rx
  refine getmeth_ok I1 ea c hm l ?_
  refine PySem.W.callWith_K (first := [.ref a]) (h₀ := X.base) I.ok.mod.kin hm.kp (thn (ha.run pos pins s1 σ H1 _ I1 q) fun us s2 ⟨vs, H2, I2, r, q2⟩ => ⟨I2.kIn, ?_⟩) hst hpl
  exact wpAny_call (run_fnR (us := .ref a :: us) (vs := .ref a :: vs) F hr hx I2 (.cons rfl r) q2)
end
end W8

set_option Elab.async false
set_option linter.all false
/-! reading a pattern's text, in plain Lean -/
namespace W8
open PySem L2
abbrev Row := List V
structure RS where
  rows : List Row
  ops : List Nat
  wait : List Nat
  ready : Bool
namespace RS
def nV (n : Nat) : V := .int (n : Int)
def put (s : RS) (r : Row) : RS := ⟨s.rows ++ [r], s.ops ++ [s.rows.length], s.wait, s.ready⟩
def popO (s : RS) : RS := ⟨s.rows, s.ops.dropLast, s.wait, s.ready⟩
def popW (s : RS) : RS := ⟨s.rows, s.ops, s.wait.dropLast, s.ready⟩
def addR (s : RS) (r : Row) : RS := ⟨s.rows ++ [r], s.ops, s.wait, s.ready⟩
def addW (s : RS) (c : Nat) : RS := ⟨s.rows, s.ops, s.wait ++ [c], s.ready⟩
def setB (s : RS) (b : Bool) : RS := ⟨s.rows, s.ops, s.wait, b⟩
def combine (s : RS) : Option RS :=
  match s.wait.getLast?, s.ops.getLast? with
  | some c, some l =>
    if c = 126 then some (put s.popW.popO [.str "not", nV l])
    else match s.ops.dropLast.getLast? with
      | some f =>
        if c = 43 then some (put s.popW.popO.popO [.str "then", nV f, nV l])
        else if c = 124 then some (put s.popW.popO.popO [.str "or", nV f, nV l])
        else some (put (((s.popW.popO.popO.addR [.str "not", nV f]).addR [.str "not", nV l]).addR [.str "or", nV s.rows.length, nV (s.rows.length + 1)]) [.str "not", nV (s.rows.length + 2)])
      | none => none
  | _, _ => none
def bind (c : Nat) : Option Nat := if c = 40 then some 0 else if c = 124 then some 1 else if c = 38 then some 2 else if c = 43 then some 3 else if c = 126 then some 4 else none
def down (b : Nat) : Nat → RS → Option RS
  | 0, _ => none
  | n + 1, s => match s.wait.getLast? with
    | none => some s
    | some c => match bind c with
      | none => none
      | some k => if b ≤ k then (match combine s with | none => none | some t => down b n t) else some s
def waitS (s : RS) (c : Nat) : Option RS :=
  match bind c with
  | none => none
  | some b => match down b (s.wait.length + 1) s with
    | none => none
    | some t => some ((t.addW c).setB false)
def addL (s : RS) : List Nat → RS
  | [] => s
  | l :: ls => addL (s.addR [.str "letter", .str (S [l])]) ls
def begin2 (al : List Nat) (s : RS) (c : Nat) : RS :=
  if c = 40 ∨ c = 126 then s.addW c
  else setB (if c = 46 then put (s.addL al) (.str "or" :: (List.range al.length).map fun i => nV (s.rows.length + i))
    else if c = 48 then s.put [.str "or"] else if c = 49 then s.put [.str "empty"] else s.put [.str "letter", .str (S [c])]) true
def begin1 (al : List Nat) (s : RS) (c : Nat) : Option RS :=
  if s.ready = true then (match waitS s 43 with | none => none | some t => some (begin2 al t c)) else some (begin2 al s c)
def close (s : RS) : Option (Option RS) :=
  match down 1 (s.wait.length + 1) s with
  | none => none
  | some t => if t.wait = [] then some none else some (some t.popW)
def take (al : List Nat) (s : RS) (c : Nat) : Option (Option RS) :=
  if c ∈ al ∨ c ∈ [46, 48, 49, 40, 126] then (begin1 al s c).map some
  else if c ∉ [42, 124, 38, 41] ∨ s.ready = false then some none
  else if c = 42 then (match s.ops.getLast? with | none => none | some l => some (some (s.popO.put [.str "again", nV l])))
  else if c = 41 then close s
  else (waitS s c).map some
def init : RS := ⟨[], [], [], false⟩
def readL (al : List Nat) : List Nat → Nat → RS → Option (Nat ⊕ RS)
  | [], _, s => some (.inr s)
  | c :: cs, i, s => match take al s c with
    | none => none
    | some none => some (.inl i)
    | some (some t) => readL al cs (i + 1) t
end RS
inductive RR where
  | rows (rs : List Row)
  | text (i : Nat)
  | long
def readP (al text : List Nat) : Option RR :=
  if 200 < text.length then some .long
  else match RS.readL al text 0 RS.init with
    | none => none
    | some (.inl i) => some (.text i)
    | some (.inr s) => if s.ready = false then some (.text text.length) else match RS.down 1 (s.wait.length + 1) s with
      | none => none
      | some t => if t.wait = [] then some (.rows t.rows) else some (.text text.length)
/-! ### how large it grows -/
namespace RS
structure Ok (s : RS) (B : Nat) : Prop where
  o : s.ops.length ≤ s.rows.length
  b : s.rows.length + 4 * s.wait.length ≤ B
theorem put_ok {s : RS} {B : Nat} {r : Row} (h : Ok s B) : Ok (s.put r) (B + 1) := by
  have := h.o
  have := h.b
  refine ⟨?_, ?_⟩
  · show (s.ops ++ [s.rows.length]).length ≤ (s.rows ++ [r]).length
    rw [List.length_append, List.length_append]
    show _ + 1 ≤ _ + 1
    omega
  · show (s.rows ++ [r]).length + 4 * s.wait.length ≤ B + 1
    rw [List.length_append]
    show _ + 1 + _ ≤ _
    omega
theorem addR_ok {s : RS} {B : Nat} {r : Row} (h : Ok s B) : Ok (s.addR r) (B + 1) := by
  have := h.o
  have := h.b
  refine ⟨?_, ?_⟩
  · show s.ops.length ≤ (s.rows ++ [r]).length
    rw [List.length_append]
    omega
  · show (s.rows ++ [r]).length + 4 * s.wait.length ≤ B + 1
    rw [List.length_append]
    show _ + 1 + _ ≤ _
    omega
theorem popO_ok {s : RS} {B : Nat} (h : Ok s B) : Ok s.popO B := ⟨by show s.ops.dropLast.length ≤ s.rows.length; rw [List.length_dropLast]; have := h.o; omega, h.b⟩
theorem popW_ok {s : RS} {B : Nat} {c : Nat} (h : Ok s B) (hc : s.wait.getLast? = some c) : Ok s.popW (B - 4) ∧ 4 ≤ B := by
  have hb := h.b
  have hl : s.wait.length ≠ 0 := fun z => by
    rw [List.length_eq_zero_iff.mp z] at hc
    cases hc
  refine ⟨⟨h.o, ?_⟩, by omega⟩
  show s.rows.length + 4 * s.wait.dropLast.length ≤ B - 4
  rw [List.length_dropLast]
  omega
theorem Ok.le {s : RS} {A B : Nat} (h : Ok s A) (l : A ≤ B) : Ok s B := ⟨h.o, Nat.le_trans h.b l⟩
theorem combine_ok {s t : RS} {B : Nat} (h : Ok s B) (e : combine s = some t) : Ok t B ∧ t.wait.length < s.wait.length := by
  unfold combine at e
  split at e
  · rename_i c l hc hl
    obtain ⟨hw, h4⟩ := popW_ok h hc
    have hlen : s.popW.wait.length < s.wait.length := by
      have : s.wait.length ≠ 0 := fun z => by rw [List.length_eq_zero_iff.mp z] at hc; cases hc
      show s.wait.dropLast.length < _
      rw [List.length_dropLast]
      omega
    split at e
    · cases e
      exact ⟨(put_ok (popO_ok hw)).le (by omega), hlen⟩
    · split at e
      · split at e
        · cases e
          exact ⟨(put_ok (popO_ok (popO_ok hw))).le (by omega), hlen⟩
        · split at e
          · cases e
            exact ⟨(put_ok (popO_ok (popO_ok hw))).le (by omega), hlen⟩
          · cases e
            exact ⟨(put_ok (addR_ok (addR_ok (addR_ok (popO_ok (popO_ok hw)))))).le (by omega), hlen⟩
      · cases e
  · cases e
theorem down_ok {b B : Nat} : ∀ {n : Nat} {s t : RS}, Ok s B → down b n s = some t → Ok t B
  | 0, _, _, _, e => by cases e
  | n + 1, s, t, h, e => by
    unfold down at e
    split at e
    · cases e; exact h
    · split at e
      · cases e
      · split at e
        · split at e
          · cases e
          · rename_i u hu
            exact down_ok (combine_ok h hu).1 e
        · cases e; exact h
theorem addW_ok {s : RS} {B c : Nat} (h : Ok s B) : Ok (s.addW c) (B + 4) := ⟨h.o, by
  show s.rows.length + 4 * (s.wait ++ [c]).length ≤ B + 4
  rw [List.length_append]
  have := h.b
  show _ + 4 * (_ + 1) ≤ _
  omega⟩
theorem setB_ok {s : RS} {B : Nat} {b : Bool} (h : Ok s B) : Ok (s.setB b) B := ⟨h.o, h.b⟩
theorem waitS_ok {s t : RS} {B c : Nat} (h : Ok s B) (e : waitS s c = some t) : Ok t (B + 4) := by
  unfold waitS at e
  split at e
  · cases e
  · split at e
    · cases e
    · rename_i u hu
      cases e
      exact setB_ok (addW_ok (down_ok h hu))
theorem addL_ok : ∀ {al : List Nat} {s : RS} {B : Nat}, Ok s B → Ok (s.addL al) (B + al.length)
  | [], _, _, h => h
  | l :: ls, s, B, h => (addL_ok (addR_ok h)).le (by show B + 1 + ls.length ≤ B + (ls.length + 1); omega)
theorem begin2_ok {al : List Nat} {s : RS} {B c : Nat} (h : Ok s B) : Ok (begin2 al s c) (B + al.length + 4) := by
  unfold begin2
  split
  · exact (addW_ok h).le (by omega)
  · refine setB_ok ?_
    split
    · exact (put_ok (addL_ok h)).le (by omega)
    · split
      · exact (put_ok h).le (by omega)
      · split
        · exact (put_ok h).le (by omega)
        · exact (put_ok h).le (by omega)
theorem begin1_ok {al : List Nat} {s t : RS} {B c : Nat} (h : Ok s B) (e : begin1 al s c = some t) : Ok t (B + al.length + 8) := by
  unfold begin1 at e
  split at e
  · split at e
    · cases e
    · rename_i u hu
      cases e
      exact (begin2_ok (waitS_ok h hu)).le (by omega)
  · cases e
    exact (begin2_ok h).le (by omega)
theorem take_ok {al : List Nat} {s t : RS} {B c : Nat} (h : Ok s B) (e : take al s c = some (some t)) : Ok t (B + al.length + 8) := by
  unfold take at e
  split at e
  · cases hb : begin1 al s c with
    | none => rw [hb] at e; cases e
    | some u => rw [hb] at e; cases e; exact begin1_ok h hb
  · split at e
    · cases e
    · split at e
      · split at e
        · cases e
        · cases e
          exact (put_ok (popO_ok h)).le (by omega)
      · split at e
        · unfold close at e
          split at e
          · cases e
          · rename_i u hu
            split at e
            · cases e
            · rename_i hw
              cases e
              have hk := down_ok h hu
              obtain ⟨c', hc'⟩ : ∃ c', u.wait.getLast? = some c' := by
                cases z : u.wait.getLast? with
                | none => exact absurd (List.getLast?_eq_none_iff.mp z) hw
                | some c' => exact ⟨c', rfl⟩
              exact (popW_ok hk hc').1.le (by omega)
        · cases hw : waitS s c with
          | none => rw [hw] at e; cases e
          | some u => rw [hw] at e; cases e; exact (waitS_ok h hw).le (by omega)
/-- more turns do not matter -/
theorem down_more {b : Nat} : ∀ {n m : Nat} {s t : RS}, down b n s = some t → n ≤ m → down b m s = some t
  | 0, _, _, _, e, _ => by cases e
  | n + 1, 0, _, _, _, h => by omega
  | n + 1, m + 1, s, t, e, h => by
    unfold down at e ⊢
    split at e
    · exact e
    · split at e
      · cases e
      · rename_i c hc k hk
        split at e
        · rename_i hb
          rw [if_pos hb]
          split at e
          · cases e
          · exact down_more e (Nat.le_of_succ_le_succ h)
        · rename_i hb
          rw [if_neg hb]
          exact e
end RS
end W8

set_option Elab.async false
set_option linter.all false
set_option maxRecDepth 100000
set_option maxHeartbeats 4000000
namespace W8
open PySem L2
/-! ### a reader as an object -/
def rf (l r o w b : V) : List (Str × V) := [("letters", l), ("rows", r), ("operands", o), ("waiting", w), ("ready", b)]
theorem rf_letters (l r o w b : V) : (rf l r o w b).lookup ("letters" : Str) = some l := by rfl
theorem rf_rows (l r o w b : V) : (rf l r o w b).lookup ("rows" : Str) = some r := by rfl
theorem rf_operands (l r o w b : V) : (rf l r o w b).lookup ("operands" : Str) = some o := by rfl
theorem rf_waiting (l r o w b : V) : (rf l r o w b).lookup ("waiting" : Str) = some w := by rfl
theorem rf_ready (l r o w b : V) : (rf l r o w b).lookup ("ready" : Str) = some b := by rfl
theorem rf_no (l r o w b : V) {m : Str} (h : ((((m == ("letters" : Str)) = false ∧ (m == ("rows" : Str)) = false) ∧ (m == ("operands" : Str)) = false) ∧ (m == ("waiting" : Str)) = false) ∧ (m == ("ready" : Str)) = false) : (rf l r o w b).lookup m = none := by
  unfold rf
  rw [List.lookup_cons, h.1.1.1.1, List.lookup_cons, h.1.1.1.2, List.lookup_cons, h.1.1.2, List.lookup_cons, h.1.2, List.lookup_cons, h.2]
  rfl
theorem putF_ready (l r o w b c : V) : putF "ready" c (rf l r o w b) = rf l r o w c := by
  show (if ("letters" : Str) = "ready" then _ else _ :: (if ("rows" : Str) = "ready" then _ else _ :: (if ("operands" : Str) = "ready" then _ else _ :: (if ("waiting" : Str) = "ready" then _ else _ :: (if ("ready" : Str) = "ready" then _ else _))))) = _
  rw [if_neg (by decide +kernel), if_neg (by decide +kernel), if_neg (by decide +kernel), if_neg (by decide +kernel), if_pos rfl]
  rfl
structure RdT (K : PySem.W.Frag) (w : World) (mg : Str → Option Value) (C D : Addr) : Prop where
  cl : Cls K C
  nL : NoAttr K C "letters"
  nR : NoAttr K C "rows"
  nO : NoAttr K C "operands"
  nW : NoAttr K C "waiting"
  nB : NoAttr K C "ready"
  mgC : mg "Reader" = some (.ref C)
  mgB : mg "BINDING" = some (.ref D)
  bd : ∀ c b, RS.bind c = some b → KDct K w D (S [c]) (.int (b : Int))
  len : mg "len" = none
  lst : mg "list" = none
  rng : mg "range" = none
abbrev Rows (H : Hp) (rl : Addr) (rows : List Row) : Prop := ∃ ts : List Addr, H rl = some (.lst (ts.map V.ref)) ∧ Paired (fun (t : Addr) (row : Row) => H t = some (.tup row)) ts rows
def sgV (c : Nat) : V := .str (S [c])
structure RdAt (H : Hp) (p dx rl ol wl C : Addr) (al : List Nat) (s : RS) : Prop where
  o : H p = some (.ins C dx (rf (.str (S al)) (.ref rl) (.ref ol) (.ref wl) (.bl s.ready)))
  r : Rows H rl s.rows
  p : H ol = some (.lst (s.ops.map RS.nV))
  w : H wl = some (.lst (s.wait.map sgV))
  n1 : rl ≠ ol
  n2 : rl ≠ wl
  n3 : ol ≠ wl
/-- all but the reader's own objects are kept -/
def K4 (p rl ol wl : Addr) (H H' : Hp) : Prop := ∀ b o, b ≠ p → b ≠ rl → b ≠ ol → b ≠ wl → H b = some o → H' b = some o
theorem K4.of {p rl ol wl : Addr} {H H' : Hp} (s : Same H H') : K4 p rl ol wl H H' := fun b o _ _ _ _ e => s b o e
theorem K4.trans {p rl ol wl : Addr} {H H1 H2 : Hp} (x : K4 p rl ol wl H H1) (y : K4 p rl ol wl H1 H2) : K4 p rl ol wl H H2 := fun b o h1 h2 h3 h4 e => y b o h1 h2 h3 h4 (x b o h1 h2 h3 h4 e)
theorem Rows.same {H H' : Hp} {rl : Addr} {rows : List Row} (s : Same H H') (h : Rows H rl rows) : Rows H' rl rows := let ⟨ts, h1, h2⟩ := h; ⟨ts, s _ _ h1, Paired.mapP h2 fun _ _ z => s _ _ z⟩
section
variable {H H' : Hp} {p dx rl ol wl C : Addr} {al : List Nat} {s : RS}
theorem RdAt.same (h : RdAt H p dx rl ol wl C al s) (t : Same H H') : RdAt H' p dx rl ol wl C al s := ⟨t _ _ h.o, h.r.same t, t _ _ h.p, t _ _ h.w, h.n1, h.n2, h.n3⟩
theorem Rows.upd {rl a : Addr} {rows : List Row} {o : HO} {u : HO} (h : Rows H rl rows) (n : a ≠ rl) (ha : H a = some u) (hu : ∀ xs, u ≠ .tup xs) : Rows (upd H a o) rl rows := by
  obtain ⟨ts, h1, h2⟩ := h
  exact ⟨ts, by rw [upd_ne (Ne.symm n)]; exact h1, Paired.mapP h2 fun _ _ z => by rw [upd_ne (fun e => by rw [e, ha] at z; exact hu _ (Option.some.inj z))]; exact z⟩
/-- a row is added -/
theorem RdAt.addR {ts : List Addr} {t : Addr} {row : Row} (h : RdAt H p dx rl ol wl C al s) (h1 : H rl = some (.lst (ts.map V.ref))) (h2 : Paired (fun (t : Addr) (row : Row) => H t = some (.tup row)) ts s.rows) (ht : H t = some (.tup row)) :
    RdAt (upd H rl (.lst (ts.map V.ref ++ [.ref t]))) p dx rl ol wl C al (s.addR row) ∧ K4 p rl ol wl H (upd H rl (.lst (ts.map V.ref ++ [.ref t]))) := by
  have np : p ≠ rl := ne_of h.o h1 (by intro z; cases z)
  refine ⟨⟨by rw [upd_ne np]; exact h.o, ⟨ts ++ [t], by rw [upd_same, List.map_append]; rfl, ?_⟩, by rw [upd_ne (Ne.symm h.n1)]; exact h.p, by rw [upd_ne (Ne.symm h.n2)]; exact h.w, h.n1, h.n2, h.n3⟩, fun b o _ nb _ _ e => by rw [upd_ne nb]; exact e⟩
  have q : ∀ {a : Addr} {r : Row}, H a = some (.tup r) → upd H rl (.lst (ts.map V.ref ++ [.ref t])) a = some (.tup r) := fun z => by rw [upd_ne (ne_of z h1 (by intro z; cases z))]; exact z
  exact paired_snoc (Paired.mapP h2 fun _ _ z => q z) (q ht)
/-- the operands are others -/
theorem RdAt.setO {xs : List Nat} {vs : List V} (e : vs = xs.map RS.nV) (h : RdAt H p dx rl ol wl C al s) : RdAt (upd H ol (.lst vs)) p dx rl ol wl C al ⟨s.rows, xs, s.wait, s.ready⟩ ∧ K4 p rl ol wl H (upd H ol (.lst vs)) :=
  ⟨⟨by rw [upd_ne (ne_of h.o h.p (by intro z; cases z))]; exact h.o, Rows.upd h.r (Ne.symm h.n1) h.p (fun _ z => nomatch z), by rw [upd_same, e], by rw [upd_ne (Ne.symm h.n3)]; exact h.w, h.n1, h.n2, h.n3⟩, fun b o _ _ nb _ e => by rw [upd_ne nb]; exact e⟩
theorem RdAt.setW {xs : List Nat} {vs : List V} (e : vs = xs.map sgV) (h : RdAt H p dx rl ol wl C al s) : RdAt (upd H wl (.lst vs)) p dx rl ol wl C al ⟨s.rows, s.ops, xs, s.ready⟩ ∧ K4 p rl ol wl H (upd H wl (.lst vs)) :=
  ⟨⟨by rw [upd_ne (ne_of h.o h.w (by intro z; cases z))]; exact h.o, Rows.upd h.r (Ne.symm h.n2) h.w (fun _ z => nomatch z), by rw [upd_ne h.n3]; exact h.p, by rw [upd_same, e], h.n1, h.n2, h.n3⟩, fun b o _ _ _ nb e => by rw [upd_ne nb]; exact e⟩
theorem RdAt.setB {b : Bool} {fs : List (Str × V)} (e : fs = rf (.str (S al)) (.ref rl) (.ref ol) (.ref wl) (.bl b)) (h : RdAt H p dx rl ol wl C al s) : RdAt (upd H p (.ins C dx fs)) p dx rl ol wl C al (s.setB b) ∧ K4 p rl ol wl H (upd H p (.ins C dx fs)) := by
  obtain ⟨ts, h1, h2⟩ := h.r
  exact ⟨⟨by rw [upd_same, e]; rfl, Rows.upd h.r (ne_of h.o h1 (by intro z; cases z)) h.o (fun _ z => nomatch z), by rw [upd_ne (ne_of h.p h.o (by intro z; cases z))]; exact h.p, by rw [upd_ne (ne_of h.w h.o (by intro z; cases z))]; exact h.w, h.n1, h.n2, h.n3⟩, fun b o nb _ _ _ e => by rw [upd_ne nb]; exact e⟩
end
theorem last_map {α : Type} (f : α → V) {xs : List α} {x : α} (h : xs.getLast? = some x) : (xs.map f)[(xs.map f).length - 1]? = some (f x) := by
  rw [List.length_map, List.getElem?_map, ← List.getLast?_eq_getElem?, h]
  rfl
theorem get_last {α : Type} (f : α → V) {xs : List α} {x : α} (h : xs.getLast? = some x) : atI (xs.map f) (-1) = some (f x) := by
  obtain ⟨ys, rfl⟩ := List.getLast?_eq_some_iff.mp h
  rw [List.map_append]
  exact atI_last _ _
/-! ### the defs -/
abbrev sRInit : Stmt := inClass (top 45) 0
theorem scRInit : FnScope ["self", "letters"] ["self", "letters"] (defScope sRInit) := ⟨rfl, rfl, rfl, by decide +kernel, rfl, by decide +kernel, by decide +kernel⟩
def spRInit (C : Addr) : Sp := fun vs H Q _ => ∃ (p dx : Addr) (al : List Nat), vs = [.ref p, .str (S al)] ∧ H p = some (.ins C dx []) ∧ ∀ H' rl ol wl, But p H H' → RdAt H' p dx rl ol wl C al RS.init → H rl = none → H ol = none → H wl = none → Q .non H'
abbrev sPut : Stmt := inClass (top 45) 1
theorem scPut : FnScope ["self", "parts"] ["self", "parts"] (defScope sPut) := ⟨rfl, rfl, rfl, by decide +kernel, rfl, by decide +kernel, by decide +kernel⟩
def spPut0 (C : Addr) : Sp := fun vs H Q _ => ∃ (p dx rl ol wl : Addr) (al : List Nat) (s : RS) (B : Nat) (t : Addr) (row : Row), vs = [.ref p, .ref t] ∧ RdAt H p dx rl ol wl C al s ∧ RS.Ok s B ∧ B ≤ 90000 ∧ H t = some (.tup row) ∧ ∀ H', K4 p rl ol wl H H' → RdAt H' p dx rl ol wl C al (s.put row) → Q .non H'
/-- self.put(..) -/
def spPut (C : Addr) : Sp := fun vs H Q _ => ∃ (p dx rl ol wl : Addr) (al : List Nat) (s : RS) (B : Nat) (row : Row), vs = .ref p :: row ∧ RdAt H p dx rl ol wl C al s ∧ RS.Ok s B ∧ B ≤ 90000 ∧ row.length ≤ 1000 ∧ ∀ H', K4 p rl ol wl H H' → RdAt H' p dx rl ol wl C al (s.put row) → Q .non H'
structure MCalR (P : Program) (w : World) (K : PySem.W.Frag) (mg : Str → Option Value) (base : Heap) (C : Addr) (m : Str) (k : Nat) (sp : Sp) : Prop where
  ex : ∃ (f : Addr), FnR P w K mg base CX0 k f sp ∧ Meth K C m f ∧ BMeth K C m f
abbrev sCombine : Stmt := inClass (top 45) 2
theorem scCombine : FnScope ["self", "sign", "last", "first", "count"] ["self"] (defScope sCombine) := ⟨rfl, rfl, rfl, by decide +kernel, rfl, by decide +kernel, by decide +kernel⟩
def spCombine (C : Addr) : Sp := fun vs H Q _ => ∃ (p dx rl ol wl : Addr) (al : List Nat) (s t : RS) (B : Nat), vs = [.ref p] ∧ RdAt H p dx rl ol wl C al s ∧ RS.Ok s B ∧ B ≤ 90000 ∧ s.combine = some t ∧ ∀ H', K4 p rl ol wl H H' → RdAt H' p dx rl ol wl C al t → Q .non H'
abbrev sDown : Stmt := inClass (top 45) 3
theorem scDown : FnScope ["self", "binding"] ["self", "binding"] (defScope sDown) := ⟨rfl, rfl, rfl, by decide +kernel, rfl, by decide +kernel, by decide +kernel⟩
def spDown (C : Addr) : Sp := fun vs H Q _ => ∃ (p dx rl ol wl : Addr) (al : List Nat) (s t : RS) (B b : Nat), vs = [.ref p, .int (b : Int)] ∧ RdAt H p dx rl ol wl C al s ∧ RS.Ok s B ∧ B ≤ 90000 ∧ RS.down b (s.wait.length + 1) s = some t ∧ ∀ H', K4 p rl ol wl H H' → RdAt H' p dx rl ol wl C al t → Q .non H'
section
variable {P : Program} {w : World} {K : PySem.W.Frag} {mg : Str → Option Value} {base : Heap}
theorem ok_rinit {f C D : Addr} {fd : FuncData} (F : Fun K "__init__" "Reader.__init__" sRInit f fd) (T : RdT K w mg C D) : FnOk P w K mg base CX0 1 f fd ["self", "letters"] (spRInit C) := by
  refine F.ok scRInit (fun vs H Q E h => ?_) (fun cdv A outer s H vs Q E hr h => ?_)
  · obtain ⟨p, dx, al, rfl, _⟩ := h
    rfl
  obtain ⟨p, dx, al, rfl, hp, q⟩ := h
  refine ⟨_, (pss_cons (ps_fld (pv 0) (pv 1) rfl)
    (pss_cons (ps_fld (pv 0) (pe_lst pa_nil) rfl)
    (pss_cons (ps_fld (pv 0) (pe_lst pa_nil) rfl)
    (pss_cons (ps_fld (pv 0) (pe_lst pa_nil) rfl)
    (pss_one (ps_fld (pv 0) pe_bl rfl)))))), ?_⟩
  refine ⟨_, rfl, _, rfl, p, C, dx, _, rfl, hp, T.cl, T.nL, (by show 0 < 1000; decide), ?_⟩
  have b0 : But p H (upd H p (.ins C dx (putF "letters" (.str (S al)) []))) := But.upd
  have h0 : upd H p (.ins C dx (putF "letters" (.str (S al)) [])) p = some (.ins C dx (putF "letters" (.str (S al)) [])) := upd_same
  generalize upd H p (.ins C dx (putF "letters" (.str (S al)) [])) = H0 at *
  refine ⟨Nat.zero_le _, fun rl hrl => ⟨_, rfl, p, C, dx, _, rfl, by rw [upd_ne (ne_of_none h0 hrl)]; exact h0, T.cl, T.nR, (by show 1 < 1000; decide), ?_⟩⟩
  have b1 : But p H (upd (upd H0 rl (.lst [])) p (.ins C dx (putF "rows" (.ref rl) (putF "letters" (.str (S al)) [])))) := b0.trans ((But.new hrl _).trans But.upd)
  have h1 : (upd (upd H0 rl (.lst [])) p (.ins C dx (putF "rows" (.ref rl) (putF "letters" (.str (S al)) [])))) p = some (.ins C dx (putF "rows" (.ref rl) (putF "letters" (.str (S al)) []))) := upd_same
  have hrl1 : (upd (upd H0 rl (.lst [])) p (.ins C dx (putF "rows" (.ref rl) (putF "letters" (.str (S al)) [])))) rl = some (.lst []) := by rw [upd_ne (Ne.symm (ne_of_none h0 hrl)), upd_same]
  have free : ∀ {H1 : Hp} {b : Addr}, But p H H1 → H1 p ≠ none → H1 b = none → H b = none := fun {H1 b} bt np hb => by
    cases hh : H b with
    | none => rfl
    | some o =>
      have : b ≠ p := fun z => by rw [z] at hb; exact np hb
      rw [bt b o this hh] at hb
      cases hb
  have frl : H rl = none := free b0 (by rw [h0]; intro z; cases z) hrl
  generalize upd (upd H0 rl (.lst [])) p (.ins C dx (putF "rows" (.ref rl) (putF "letters" (.str (S al)) []))) = H1 at *
  clear b0 h0 hrl
  refine ⟨Nat.zero_le _, fun ol hol => ⟨_, rfl, p, C, dx, _, rfl, by rw [upd_ne (ne_of_none h1 hol)]; exact h1, T.cl, T.nO, (by show 2 < 1000; decide), ?_⟩⟩
  have n1 : rl ≠ ol := ne_of_none hrl1 hol
  have nrp : rl ≠ p := ne_of hrl1 h1 (by intro z; cases z)
  have b2 : But p H (upd (upd H1 ol (.lst [])) p (.ins C dx (putF "operands" (.ref ol) (putF "rows" (.ref rl) (putF "letters" (.str (S al)) []))))) := b1.trans ((But.new hol _).trans But.upd)
  have h2 : (upd (upd H1 ol (.lst [])) p (.ins C dx (putF "operands" (.ref ol) (putF "rows" (.ref rl) (putF "letters" (.str (S al)) []))))) p = some (.ins C dx (putF "operands" (.ref ol) (putF "rows" (.ref rl) (putF "letters" (.str (S al)) [])))) := upd_same
  have nop : ol ≠ p := Ne.symm (ne_of_none h1 hol)
  have hol2 : (upd (upd H1 ol (.lst [])) p (.ins C dx (putF "operands" (.ref ol) (putF "rows" (.ref rl) (putF "letters" (.str (S al)) []))))) ol = some (.lst []) := by rw [upd_ne nop, upd_same]
  have hrl2 : (upd (upd H1 ol (.lst [])) p (.ins C dx (putF "operands" (.ref ol) (putF "rows" (.ref rl) (putF "letters" (.str (S al)) []))))) rl = some (.lst []) := by rw [upd_ne nrp, upd_ne n1]; exact hrl1
  have fol : H ol = none := free b1 (by rw [h1]; intro z; cases z) hol
  generalize upd (upd H1 ol (.lst [])) p (.ins C dx (putF "operands" (.ref ol) (putF "rows" (.ref rl) (putF "letters" (.str (S al)) [])))) = H2 at *
  clear b1 h1 hrl1 hol
  refine ⟨Nat.zero_le _, fun wl hwl => ⟨_, rfl, p, C, dx, _, rfl, by rw [upd_ne (ne_of_none h2 hwl)]; exact h2, T.cl, T.nW, (by show 3 < 1000; decide), ?_⟩⟩
  refine ⟨_, rfl, p, C, dx, _, rfl, upd_same, T.cl, T.nB, (by show 4 < 1000; decide), ?_⟩
  have n2 : rl ≠ wl := ne_of_none hrl2 hwl
  have n3 : ol ≠ wl := ne_of_none hol2 hwl
  have nwp : wl ≠ p := Ne.symm (ne_of_none h2 hwl)
  have fwl : H wl = none := free b2 (by rw [h2]; intro z; cases z) hwl
  refine q _ rl ol wl (b2.trans ((But.new hwl _).trans (But.upd.trans But.upd))) ⟨?_, ⟨[], ?_, .nil⟩, ?_, ?_, n1, n2, n3⟩ frl fol fwl
  · rw [upd_same]
    rfl
  · rw [upd_ne nrp, upd_ne nrp, upd_ne n2]; exact hrl2
  · rw [upd_ne nop, upd_ne nop, upd_ne n3]; exact hol2
  · rw [upd_ne nwp, upd_ne nwp, upd_same]; rfl
theorem ok_put0 {f C D : Addr} {oc kV doc pm cdv ct : Value} {od an : Option Addr} {osl : Array (Option Value)} (lk : K.lookup f = some ⟨oc, od, .func (PySem.W.fnOf "put" "Reader.put" (defArgs sPut) (defBody sPut) (defScope sPut) .none kV doc pm an cdv ct), osl⟩) (hcd : PySem.W.codeIn K cdv "Reader.put" = true) (T : RdT K w mg C D) :
    FnR P w K mg base CX0 1 f (spPut C) := by
  have F := StX.fn_star (P := P) (w := w) (mg := mg) (base := base) (k := 0) (CX := CX0) (ps := ["self"]) (pv := "parts") (sp := spPut0 C) lk hcd scPut StX.cxUp_none (fun us rest h => match us, h with | [u], _ => bind_star (P := defArgs sPut) (x := "self") (y := "parts") rfl rfl rfl rfl rfl rfl u rest) (fun A outer s H vs Q E hr h => ?_)
  · intro A outer s H us vs Q E hr e0 r h
    obtain ⟨p, dx, rl, ol, wl, al, s0, B, row, rfl, G, hB, hB9, hrow, q⟩ := h
    refine F A outer s H us _ Q E hr e0 r ⟨[.ref p], row, rfl, rfl, sz (by omega), fun t ht => ?_⟩
    have s1 := same_new ht (.tup row)
    exact ⟨p, dx, rl, ol, wl, al, s0, B, t, row, rfl, G.same s1, hB, hB9, upd_same, fun H' k r => q H' ((K4.of s1).trans k) r⟩
  obtain ⟨p, dx, rl, ol, wl, al, s0, B, t, row, rfl, G, hB, hB9, ht, q⟩ := h
  refine ⟨_, (pss_cons (ps_expr (pe_bm PySem.F.plainAttrs_list PySem.F.slot_list_append PySem.F.type_list_append mt_append (pe_fld (pv 0) rfl) (pa_cons (pv 1) pa_nil)))
    (pss_one (ps_expr (pe_bm PySem.F.plainAttrs_list PySem.F.slot_list_append PySem.F.type_list_append mt_append (pe_fld (pv 0) rfl) (pa_cons (pe_op op_sub (pB1 call_len_seq T.len (pe_fld (pv 0) rfl)) pe_int) pa_nil))))), ?_⟩
  obtain ⟨ts, h1, h2⟩ := G.r
  have hl : ts.length = s0.rows.length := Paired.length h2
  have hb := hB.b
  have ho := hB.o
  refine ⟨_, rfl, p, C, dx, _, _, rfl, G.o, T.cl, T.nR, rf_rows _ _ _ _ _, .inl ⟨rfl, _, SqL.of h1⟩, _, rfl, rl, _, _, rfl, rfl, h1, small_lt (by rw [List.length_map]; omega), ?_⟩
  obtain ⟨G1, k1⟩ := G.addR h1 h2 ht
  have hr1 : (upd H rl (.lst (ts.map V.ref ++ [.ref t]))) rl = some (.lst (ts.map V.ref ++ [.ref t])) := upd_same
  generalize upd H rl (.lst (ts.map V.ref ++ [.ref t])) = H1 at *
  refine ⟨_, rfl, p, C, dx, _, _, rfl, G1.o, T.cl, T.nO, rf_operands _ _ _ _ _, .inl ⟨rfl, _, SqL.of G1.p⟩, _, rfl, p, C, dx, _, _, rfl, G1.o, T.cl, T.nR, rf_rows _ _ _ _ _, rl, _, rfl, .inl (SqL.of hr1), _, _, rfl, rfl, ol, _, _, rfl, rfl, G1.p, small_lt (by rw [List.length_map]; show s0.ops.length < _; omega), ?_⟩
  obtain ⟨G2, k2⟩ := G1.setO (xs := s0.ops ++ [s0.rows.length]) (vs := s0.ops.map RS.nV ++ [.int (((ts.map V.ref ++ [V.ref t]).length : Int) - 1)]) (by
    rw [List.map_append]
    refine congrArg (fun z => s0.ops.map RS.nV ++ [V.int z]) ?_
    rw [List.length_append, List.length_map, hl]
    show ((s0.rows.length + 1 : Nat) : Int) - 1 = _
    omega)
  exact q _ (k1.trans k2) G2
end
end W8

set_option Elab.async false
set_option linter.all false
set_option maxRecDepth 100000
set_option maxHeartbeats 4000000
namespace W8
open PySem L2
theorem sg_iff {c k : Nat} {z : Str} (e : z = S [k]) : (V.str (S [c]) = V.str z) ↔ c = k := by
  rw [e]
  constructor
  · intro h
    have := S_inj (by injection h : S [c] = S [k])
    injection this
  · rintro rfl
    rfl
theorem sg_t {c k : Nat} {z : Str} (e : z = S [k]) (h : decide (V.str (S [c]) = V.str z) = true) : c = k := (sg_iff e).mp (of_decide_eq_true h)
theorem sg_f {c k : Nat} {z : Str} (e : z = S [k]) (h : ¬ decide (V.str (S [c]) = V.str z) = true) : c ≠ k := fun x => h (decide_eq_true ((sg_iff e).mpr x))
theorem c126 : ("~" : Str) = S [126] := by decide +kernel
theorem c43 : ("+" : Str) = S [43] := by decide +kernel
theorem c124 : ("|" : Str) = S [124] := by decide +kernel
theorem c40 : ("(" : Str) = S [40] := by decide +kernel
theorem c46 : ("." : Str) = S [46] := by decide +kernel
theorem c48 : ("0" : Str) = S [48] := by decide +kernel
theorem c49 : ("1" : Str) = S [49] := by decide +kernel
theorem c42 : ("*" : Str) = S [42] := by decide +kernel
theorem c41 : (")" : Str) = S [41] := by decide +kernel
section
variable {P : Program} {w : World} {K : PySem.W.Frag} {mg : Str → Option Value} {base : Heap}
theorem ok_combine {f C D : Addr} {fd : FuncData} (F : Fun K "combine" "Reader.combine" sCombine f fd) (T : RdT K w mg C D) (cp : MCalR P w K mg base C "put" 1 (spPut C)) : FnOk P w K mg base CX0 2 f fd ["self"] (spCombine C) := by
  refine F.ok scCombine (fun vs H Q E h => ?_) (fun cdv A outer s H vs Q E hr h => ?_)
  · obtain ⟨p, dx, rl, ol, wl, al, s, t, B, rfl, _⟩ := h
    rfl
  obtain ⟨p, dx, rl, ol, wl, al, s, t, B, rfl, G, hB, hB9, hc, q⟩ := h
  obtain ⟨f1, F1, m1, bm1⟩ := cp.ex
  refine ⟨_, (pss_cons (ps_set (i := 1) scCombine.nd rfl (Or.inl rfl) (pe_bm0 PySem.F.plainAttrs_list PySem.F.slot_list_pop PySem.F.type_list_pop mt_pop (pe_fld (pv 0) rfl)))
    (pss_cons (ps_set (i := 2) scCombine.nd rfl (Or.inl rfl) (pe_bm0 PySem.F.plainAttrs_list PySem.F.slot_list_pop PySem.F.type_list_pop mt_pop (pe_fld (pv 0) rfl)))
    (pss_cons (ps_if (pt_cmpR op_eq (pv 1) pe_str (nomark _))
      (pss_cons (ps_expr (pe_methR (pv 0) T.cl m1 F1 hr pass0 (pa_cons pe_str (pa_cons (pv 2) pa_nil))))
      (pss_one ps_retN))
      pss_nil)
    (pss_cons (ps_set (i := 3) scCombine.nd rfl (Or.inl rfl) (pe_bm0 PySem.F.plainAttrs_list PySem.F.slot_list_pop PySem.F.type_list_pop mt_pop (pe_fld (pv 0) rfl)))
    (pss_one (ps_if (pt_cmpR op_eq (pv 1) pe_str (nomark _))
      (pss_one (ps_expr (pe_methR (pv 0) T.cl m1 F1 hr pass0 (pa_cons pe_str (pa_cons (pv 3) (pa_cons (pv 2) pa_nil))))))
      (pss_one (ps_if (pt_cmpR op_eq (pv 1) pe_str (nomark _))
        (pss_one (ps_expr (pe_methR (pv 0) T.cl m1 F1 hr pass0 (pa_cons pe_str (pa_cons (pv 3) (pa_cons (pv 2) pa_nil))))))
        (pss_cons (ps_set (i := 4) scCombine.nd rfl (Or.inl rfl) (pB1 call_len_seq T.len (pe_fld (pv 0) rfl)))
        (pss_cons (ps_expr (pe_bm PySem.F.plainAttrs_list PySem.F.slot_list_append PySem.F.type_list_append mt_append (pe_fld (pv 0) rfl) (pa_cons (pe_tup (pa_cons pe_str (pa_cons (pv 3) pa_nil))) pa_nil)))
        (pss_cons (ps_expr (pe_bm PySem.F.plainAttrs_list PySem.F.slot_list_append PySem.F.type_list_append mt_append (pe_fld (pv 0) rfl) (pa_cons (pe_tup (pa_cons pe_str (pa_cons (pv 2) pa_nil))) pa_nil)))
        (pss_cons (ps_expr (pe_bm PySem.F.plainAttrs_list PySem.F.slot_list_append PySem.F.type_list_append mt_append (pe_fld (pv 0) rfl) (pa_cons (pe_tup (pa_cons pe_str (pa_cons (pv 4) (pa_cons (pe_op op_add (pv 4) pe_int) pa_nil)))) pa_nil)))
        (pss_one (ps_expr (pe_methR (pv 0) T.cl m1 F1 hr pass0 (pa_cons pe_str (pa_cons (pe_op op_add (pv 4) pe_int) pa_nil))))))))))))))))), ?_⟩
  unfold RS.combine at hc
  split at hc
  case h_2 => cases hc
  case h_1 c l hw hl =>
  obtain ⟨hw1, h4⟩ := RS.popW_ok hB hw
  -- sign, last
  refine ⟨_, rfl, p, C, dx, _, _, rfl, G.o, T.cl, T.nW, rf_waiting _ _ _ _ _, .inl ⟨rfl, _, SqL.of G.w⟩, wl, _, _, rfl, rfl, G.w, last_map sgV hw, ?_⟩
  obtain ⟨G1, k1⟩ := G.setW (xs := s.wait.dropLast) (vs := (s.wait.map sgV).dropLast) List.map_dropLast.symm
  generalize upd H wl (.lst (s.wait.map sgV).dropLast) = H1 at *
  refine ⟨_, rfl, p, C, dx, _, _, rfl, G1.o, T.cl, T.nO, rf_operands _ _ _ _ _, .inl ⟨rfl, _, SqL.of G1.p⟩, ol, _, _, rfl, rfl, G1.p, last_map RS.nV hl, ?_⟩
  obtain ⟨G2, k2⟩ := G1.setO (xs := s.ops.dropLast) (vs := (s.ops.map RS.nV).dropLast) List.map_dropLast.symm
  generalize upd H1 ol (.lst (s.ops.map RS.nV).dropLast) = H2 at *
  have hw2 := RS.popO_ok hw1
  refine ⟨_, rfl, rfl, _, rfl, ?_⟩
  refine ite2 (fun e => ?_) (fun e => ?_)
  · rw [if_pos (sg_t c126 e)] at hc
    cases hc
    exact ⟨_, rfl, p, dx, _, rfl, G2.o, rf_no _ _ _ _ _ (by decide +kernel), _, rfl, p, dx, rl, ol, wl, al, _, _, [.str "not", RS.nV l], rfl, G2, hw2, by omega, by show 2 ≤ 1000; decide, fun H3 k3 G3 => q H3 (k1.trans (k2.trans k3)) G3⟩
  rw [if_neg (sg_f c126 e)] at hc
  split at hc
  case h_2 => cases hc
  case h_1 fi hf =>
  refine ⟨_, rfl, p, C, dx, _, _, rfl, G2.o, T.cl, T.nO, rf_operands _ _ _ _ _, .inl ⟨rfl, _, SqL.of G2.p⟩, ol, _, _, rfl, rfl, G2.p, last_map RS.nV hf, ?_⟩
  obtain ⟨G3, k3⟩ := G2.setO (xs := s.ops.dropLast.dropLast) (vs := (s.ops.dropLast.map RS.nV).dropLast) List.map_dropLast.symm
  generalize upd H2 ol (.lst (s.ops.dropLast.map RS.nV).dropLast) = H3 at *
  have hw3 := RS.popO_ok hw2
  have k123 := k1.trans (k2.trans k3)
  refine ⟨_, rfl, rfl, _, rfl, ?_⟩
  refine ite2 (fun e => ?_) (fun e => ?_)
  · rw [if_pos (sg_t c43 e)] at hc
    cases hc
    exact ⟨_, rfl, p, dx, _, rfl, G3.o, rf_no _ _ _ _ _ (by decide +kernel), _, rfl, _, rfl, p, dx, rl, ol, wl, al, _, _, [.str "then", RS.nV fi, RS.nV l], rfl, G3, hw3, by omega, by show 3 ≤ 1000; decide, fun H4 k4 G4 => q H4 (k123.trans k4) G4⟩
  rw [if_neg (sg_f c43 e)] at hc
  refine ⟨_, rfl, rfl, _, rfl, ?_⟩
  refine ite2 (fun e => ?_) (fun e => ?_)
  · rw [if_pos (sg_t c124 e)] at hc
    cases hc
    exact ⟨_, rfl, p, dx, _, rfl, G3.o, rf_no _ _ _ _ _ (by decide +kernel), _, rfl, _, rfl, p, dx, rl, ol, wl, al, _, _, [.str "or", RS.nV fi, RS.nV l], rfl, G3, hw3, by omega, by show 3 ≤ 1000; decide, fun H4 k4 G4 => q H4 (k123.trans k4) G4⟩
  rw [if_neg (sg_f c124 e)] at hc
  cases hc
  have hb := hw3.b
  obtain ⟨ts, h1, h2⟩ := G3.r
  have hlt : ts.length = s.rows.length := Paired.length h2
  have hsm : s.rows.length ≤ 90000 := by have : s.rows.length + 4 * _ ≤ B - 4 := hb; omega
  refine ⟨_, rfl, p, C, dx, _, _, rfl, G3.o, T.cl, T.nR, rf_rows _ _ _ _ _, rl, _, rfl, .inl (SqL.of h1), ?_⟩
  rw [show ((ts.map V.ref).length : Int) = ((s.rows.length : Nat) : Int) by rw [List.length_map, hlt]]
  -- rows.append(("not", first))
  refine ⟨_, rfl, p, C, dx, _, _, rfl, G3.o, T.cl, T.nR, rf_rows _ _ _ _ _, .inl ⟨rfl, _, SqL.of h1⟩, _, rfl, by show 2 ≤ sizeLine; decide, fun t1 ht1 => ?_⟩
  have s4 := same_new ht1 (.tup [.str "not", RS.nV fi])
  have ht1' : (upd H3 t1 (.tup [.str "not", RS.nV fi])) t1 = some (.tup [.str "not", RS.nV fi]) := upd_same
  have e4 : upd H3 t1 (.tup [.str "not", .int (fi : Int)]) = upd H3 t1 (.tup [.str "not", RS.nV fi]) := rfl
  have G4 := G3.same s4
  have h1' := s4 _ _ h1
  have h2' := Paired.mapP h2 fun _ _ z => s4 _ _ z
  refine ⟨rl, _, _, rfl, rfl, h1', small_lt (by rw [List.length_map]; omega), ?_⟩
  obtain ⟨G5, k5⟩ := G4.addR h1' h2' ht1'
  obtain ⟨ts5, g1, g2⟩ := G5.r
  have hl5 : ts5.length = s.rows.length + 1 := by rw [Paired.length g2]; show (s.rows ++ [_]).length = _; rw [List.length_append]; rfl
  generalize upd (upd H3 t1 (.tup [.str "not", RS.nV fi])) rl (.lst (ts.map V.ref ++ [.ref t1])) = H5 at *
  refine ⟨_, rfl, p, C, dx, _, _, rfl, G5.o, T.cl, T.nR, rf_rows _ _ _ _ _, .inl ⟨rfl, _, SqL.of g1⟩, _, rfl, by show 2 ≤ sizeLine; decide, fun t2 ht2 => ?_⟩
  have s6 := same_new ht2 (.tup [.str "not", RS.nV l])
  have ht2' : (upd H5 t2 (.tup [.str "not", RS.nV l])) t2 = some (.tup [.str "not", RS.nV l]) := upd_same
  have G6 := G5.same s6
  have g1' := s6 _ _ g1
  have g2' := Paired.mapP g2 fun _ _ z => s6 _ _ z
  refine ⟨rl, _, _, rfl, rfl, g1', small_lt (by rw [List.length_map]; omega), ?_⟩
  obtain ⟨G7, k7⟩ := G6.addR g1' g2' ht2'
  obtain ⟨ts7, i1, i2⟩ := G7.r
  have hl7 : ts7.length = s.rows.length + 2 := by rw [Paired.length i2]; show ((s.rows ++ [_]) ++ [_]).length = _; rw [List.length_append, List.length_append]; rfl
  generalize upd (upd H5 t2 (.tup [.str "not", RS.nV l])) rl (.lst (ts5.map V.ref ++ [.ref t2])) = H7 at *
  refine ⟨_, rfl, p, C, dx, _, _, rfl, G7.o, T.cl, T.nR, rf_rows _ _ _ _ _, .inl ⟨rfl, _, SqL.of i1⟩, _, rfl, _, rfl, _, _, rfl, rfl, by show 3 ≤ sizeLine; decide, fun t3 ht3 => ?_⟩
  have s8 := same_new ht3 (.tup [.str "or", RS.nV s.rows.length, RS.nV (s.rows.length + 1)])
  have ht3' : (upd H7 t3 (.tup [.str "or", RS.nV s.rows.length, RS.nV (s.rows.length + 1)])) t3 = some (.tup [.str "or", RS.nV s.rows.length, RS.nV (s.rows.length + 1)]) := upd_same
  have G8 := G7.same s8
  have i1' := s8 _ _ i1
  have i2' := Paired.mapP i2 fun _ _ z => s8 _ _ z
  refine ⟨rl, _, _, rfl, rfl, i1', small_lt (by rw [List.length_map]; omega), ?_⟩
  obtain ⟨G9, k9⟩ := G8.addR i1' i2' ht3'
  have kall := k123.trans ((K4.of s4).trans (k5.trans ((K4.of s6).trans (k7.trans ((K4.of s8).trans k9)))))
  refine ⟨_, rfl, p, dx, _, rfl, G9.o, rf_no _ _ _ _ _ (by decide +kernel), _, rfl, _, _, rfl, rfl, p, dx, rl, ol, wl, al, _, _, [.str "not", RS.nV (s.rows.length + 2)], rfl, G9, RS.addR_ok (RS.addR_ok (RS.addR_ok hw3)), by omega, by show 2 ≤ 1000; decide, fun H10 k10 G10 => q H10 (kall.trans k10) G10⟩
theorem ok_down {f C D : Addr} {fd : FuncData} (F : Fun K "combine_down_to" "Reader.combine_down_to" sDown f fd) (T : RdT K w mg C D) (cc : MCal P w K mg base C "combine" 2 ["self"] (spCombine C)) : FnOk P w K mg base CX0 3 f fd ["self", "binding"] (spDown C) := by
  refine F.ok scDown (fun vs H Q E h => ?_) (fun cdv A outer s H vs Q E hr h => ?_)
  · obtain ⟨p, dx, rl, ol, wl, al, s, t, B, b, rfl, _⟩ := h
    rfl
  obtain ⟨p, dx, rl, ol, wl, al, s, t, B, b, rfl, G, hB, hB9, hd, q⟩ := h
  obtain ⟨f1, fd1, F1, m1, b1⟩ := cc.ex
  refine ⟨_, (pss_one (ps_while PassesOwn.never (PW.pt (pw_and (pt_truth (pe_fld (pv 0) rfl) (by intro _; rfl)) (pw_and1 (pt_cmpR op_ge (pe_ix ix_kdict (pe_glob (v := .ref D) rfl T.mgB rfl) (pixL (pe_fld (pv 0) rfl) (pe_un un_neg pe_int)) (fun _ _ => rfl)) (pv 1) (nomark _)))))
      (pss_one (ps_expr (pe_meth0 (pv 0) T.cl m1 F1 hr b1 .nil pass0))))), ?_⟩
  refine ⟨fun m σ H' => σ = [some (.ref p), some (.int (b : Int))] ∧ ∃ s', RdAt H' p dx rl ol wl C al s' ∧ K4 p rl ol wl H H' ∧ RS.Ok s' B ∧ RS.down b m s' = some t, ⟨_, rfl, s, G, K4.of (Same.refl H), hB, hd⟩, ?_⟩
  rintro m σ H1 ⟨rfl, s1, G1, k1, hB1, hd1⟩
  cases m with
  | zero => cases hd1
  | succ n =>
  unfold RS.down at hd1
  refine ⟨_, rfl, p, C, dx, _, _, rfl, G1.o, T.cl, T.nW, rf_waiting _ _ _ _ _, _, .inl ⟨_, SqL.of G1.w, rfl⟩, ?_⟩
  split at hd1
  · rename_i hw
    cases hd1
    have e0 : t.wait = [] := List.getLast?_eq_none_iff.mp hw
    have e1 : (!(t.wait.map sgV).isEmpty) = false := by rw [e0]; rfl
    rw [e1]
    exact q H1 k1 G1
  · rename_i c hw
    have e1 : (!(s1.wait.map sgV).isEmpty) = true := by
      cases hh : s1.wait with
      | nil => rw [hh] at hw; cases hw
      | cons x xs => rfl
    rw [e1]
    split at hd1
    · cases hd1
    rename_i k hk
    refine ⟨_, rfl, p, C, dx, _, _, rfl, G1.o, T.cl, T.nW, rf_waiting _ _ _ _ _, _, rfl, wl, _, _, _, rfl, rfl, SqL.of G1.w, get_last sgV hw, D, _, _, rfl, rfl, T.bd c k hk, _, rfl, _, _, rfl, rfl, _, rfl, ?_⟩
    split at hd1
    · rename_i hbk
      rw [decide_eq_true (show ((b : Int) ≤ (k : Int)) by omega)]
      split at hd1
      · cases hd1
      rename_i u hu
      refine ⟨fun σ' H' => σ' = [some (.ref p), some (.int (b : Int))] ∧ RdAt H' p dx rl ol wl C al u ∧ K4 p rl ol wl H H', fun σ' H' ⟨e, g, k'⟩ => ⟨n, Nat.lt_succ_self _, e, u, g, k', (RS.combine_ok hB1 hu).1, hd1⟩, ?_⟩
      exact ⟨_, rfl, p, dx, _, rfl, G1.o, rf_no _ _ _ _ _ (by decide +kernel), p, dx, rl, ol, wl, al, s1, u, B, rfl, G1, hB1, hB9, hu, fun H2 k2 G2 => ⟨rfl, G2, k1.trans k2⟩⟩
    · rename_i hbk
      cases hd1
      rw [decide_eq_false (show ¬ ((b : Int) ≤ (k : Int)) by omega)]
      exact q H1 k1 G1
end
end W8

set_option Elab.async false
set_option linter.all false
set_option maxRecDepth 100000
set_option maxHeartbeats 4000000
namespace W8
open PySem PySem.Spec PyProof.Rows L2 L2E
abbrev sWait : Stmt := inClass (top 45) 4
theorem scWait : FnScope ["self", "sign"] ["self", "sign"] (defScope sWait) := ⟨rfl, rfl, rfl, by decide +kernel, rfl, by decide +kernel, by decide +kernel⟩
def spWait (C : Addr) : Sp := fun vs H Q _ => ∃ (p dx rl ol wl : Addr) (al : List Nat) (s t : RS) (B c : Nat), vs = [.ref p, .str (S [c])] ∧ RdAt H p dx rl ol wl C al s ∧ RS.Ok s B ∧ B ≤ 90000 ∧ RS.waitS s c = some t ∧ ∀ H', K4 p rl ol wl H H' → RdAt H' p dx rl ol wl C al t → Q .non H'
abbrev sBegin : Stmt := inClass (top 45) 5
theorem scBegin : FnScope ["self", "char", "first", "letter", "numbers"] ["self", "char"] (defScope sBegin) := ⟨rfl, rfl, rfl, by decide +kernel, rfl, by decide +kernel, by decide +kernel⟩
def spBegin (C : Addr) : Sp := fun vs H Q _ => ∃ (p dx rl ol wl : Addr) (al : List Nat) (s t : RS) (B c : Nat), vs = [.ref p, .str (S [c])] ∧ RdAt H p dx rl ol wl C al s ∧ RS.Ok s B ∧ B ≤ 80000 ∧ al.length ≤ 3 ∧ RS.begin1 al s c = some t ∧ ∀ H', K4 p rl ol wl H H' → RdAt H' p dx rl ol wl C al t → Q .non H'
/-- an error after the reader alone was changed -/
def ErrK (E : XK) (p rl ol wl : Addr) (C : Addr) (f : Str) (v : V) (H : Hp) : Prop := ∀ d H', K4 p rl ol wl H H' → H d = none → H' d = some (.xd [(f, v)]) → E (.ref C) (some d) H'
theorem ErrK.go {E : XK} {p rl ol wl C : Addr} {f : Str} {v : V} {H H1 : Hp} {d : Addr} (h : ErrK E p rl ol wl C f v H) (s : K4 p rl ol wl H H1) (hp : H1 p ≠ none) (h1 : H1 rl ≠ none) (h2 : H1 ol ≠ none) (h3 : H1 wl ≠ none) (n : H1 d = none) : E (.ref C) (some d) (upd H1 d (.xd [(f, v)])) := by
  refine h d _ (s.trans (K4.of (same_new n _))) ?_ upd_same
  cases hh : H d with
  | none => rfl
  | some o =>
    have := s d o (fun e => hp (e ▸ n)) (fun e => h1 (e ▸ n)) (fun e => h2 (e ▸ n)) (fun e => h3 (e ▸ n)) hh
    rw [n] at this
    cases this
theorem addL_snoc : ∀ (ls : List Nat) (s : RS) (l : Nat), s.addL (ls ++ [l]) = (s.addL ls).addR [.str "letter", .str (S [l])]
  | [], s, l => rfl
  | x :: ls, s, l => addL_snoc ls _ l
theorem addL_rows : ∀ (ls : List Nat) (s : RS), (s.addL ls).rows.length = s.rows.length + ls.length
  | [], s => rfl
  | x :: ls, s => by
    show ((s.addR _).addL ls).rows.length = _
    rw [addL_rows ls]
    show (s.rows ++ [_]).length + ls.length = s.rows.length + (ls.length + 1)
    rw [List.length_append]
    show s.rows.length + 1 + ls.length = _
    omega
section
variable {P : Program} {w : World} {K : PySem.W.Frag} {mg : Str → Option Value} {base : Heap}
theorem ok_wait {f C D : Addr} {fd : FuncData} (F : Fun K "wait" "Reader.wait" sWait f fd) (T : RdT K w mg C D) (cd : MCal P w K mg base C "combine_down_to" 3 ["self", "binding"] (spDown C)) : FnOk P w K mg base CX0 4 f fd ["self", "sign"] (spWait C) := by
  refine F.ok scWait (fun vs H Q E h => ?_) (fun cdv A outer s H vs Q E hr h => ?_)
  · obtain ⟨p, dx, rl, ol, wl, al, s, t, B, c, rfl, _⟩ := h
    rfl
  obtain ⟨p, dx, rl, ol, wl, al, s, t, B, c, rfl, G, hB, hB9, hw, q⟩ := h
  obtain ⟨f1, fd1, F1, m1, b1⟩ := cd.ex
  refine ⟨_, (pss_cons (ps_expr (pe_meth (pv 0) T.cl m1 F1 hr b1 .nil pass0 (pa_cons (pe_ix ix_kdict (pe_glob (v := .ref D) rfl T.mgB rfl) (pv 1) (fun _ _ => rfl)) pa_nil)))
    (pss_cons (ps_expr (pe_bm PySem.F.plainAttrs_list PySem.F.slot_list_append PySem.F.type_list_append mt_append (pe_fld (pv 0) rfl) (pa_cons (pv 1) pa_nil)))
    (pss_one (ps_fld (pv 0) pe_bl rfl)))), ?_⟩
  unfold RS.waitS at hw
  split at hw
  · cases hw
  rename_i b hb
  split at hw
  · cases hw
  rename_i u hu
  cases hw
  refine ⟨_, rfl, p, dx, _, rfl, G.o, rf_no _ _ _ _ _ (by decide +kernel), _, rfl, D, _, _, rfl, rfl, T.bd c b hb, p, dx, rl, ol, wl, al, s, u, B, b, rfl, G, hB, hB9, hu, fun H1 k1 G1 => ?_⟩
  have hBu := RS.down_ok hB hu
  refine ⟨_, rfl, p, C, dx, _, _, rfl, G1.o, T.cl, T.nW, rf_waiting _ _ _ _ _, .inl ⟨rfl, _, SqL.of G1.w⟩, _, rfl, wl, _, _, rfl, rfl, G1.w, small_lt (by rw [List.length_map]; have := hBu.b; omega), ?_⟩
  obtain ⟨G2, k2⟩ := G1.setW (xs := u.wait ++ [c]) (vs := u.wait.map sgV ++ [.str (S [c])]) (by rw [List.map_append]; rfl)
  generalize upd H1 wl (.lst (u.wait.map sgV ++ [.str (S [c])])) = H2 at *
  refine ⟨_, rfl, p, C, dx, _, rfl, G2.o, T.cl, T.nB, (by show 5 < 1000; decide), ?_⟩
  obtain ⟨G3, k3⟩ := G2.setB (b := false) (putF_ready _ _ _ _ _ (.bl false))
  exact q _ (k1.trans (k2.trans k3)) G3
theorem ok_begin {f C D : Addr} {fd : FuncData} (F : Fun K "begin" "Reader.begin" sBegin f fd) (T : RdT K w mg C D) (cw : MCal P w K mg base C "wait" 4 ["self", "sign"] (spWait C)) (cp : MCalR P w K mg base C "put" 1 (spPut C)) : FnOk P w K mg base CX0 5 f fd ["self", "char"] (spBegin C) := by
  refine F.ok scBegin (fun vs H Q E h => ?_) (fun cdv A outer sh H vs Q E hr h => ?_)
  · obtain ⟨p, dx, rl, ol, wl, al, s, t, B, c, rfl, _⟩ := h
    rfl
  obtain ⟨p, dx, rl, ol, wl, al, s, t, B, c, rfl, G, hB, hB8, h3, hw, q⟩ := h
  obtain ⟨f1, fd1, F1, m1, b1⟩ := cw.ex
  obtain ⟨f2, F2, m2, bm2⟩ := cp.ex
  have hr1 := hr.mono (show 1 ≤ 4 by decide)
  have tail : ∃ tb, PSs (cxOf CX0 P w K mg base ["self", "char", "first", "letter", "numbers"] "Reader.begin" (defScope sBegin) f cdv A outer sh H E).nox (defBody sBegin).tail tb ∧ ∀ H1 s1, K4 p rl ol wl H H1 → RdAt H1 p dx rl ol wl C al s1 → RS.Ok s1 (B + 4) → RS.begin2 al s1 c = t → tb { nx := fun _ H' => Q .non H', rt := Q } [some (.ref p), some (.str (S [c])), none, none, none] H1 := by
    refine ⟨_, (pss_cons (ps_if (PW.pt (pw_or (pt_cmpR op_eq (pv 1) pe_str (nomark _)) (pw_or1 (pt_cmpR op_eq (pv 1) pe_str (nomark _)))))
        (pss_cons (ps_expr (pe_bm PySem.F.plainAttrs_list PySem.F.slot_list_append PySem.F.type_list_append mt_append (pe_fld (pv 0) rfl) (pa_cons (pv 1) pa_nil)))
        (pss_one ps_retN))
        pss_nil)
      (pss_cons (ps_if (pt_cmpR op_eq (pv 1) pe_str (nomark _))
        (pss_cons (ps_set (i := 2) scBegin.nd rfl (Or.inl rfl) (pB1 call_len_seq T.len (pe_fld (pv 0) rfl)))
        (pss_cons (ps_for PassesOwn.never rfl (pi_str (pe_fld (pv 0) rfl)) (pg_name (i := 3) scBegin.nd rfl (Or.inl rfl))
          (pss_one (ps_expr (pe_bm PySem.F.plainAttrs_list PySem.F.slot_list_append PySem.F.type_list_append mt_append (pe_fld (pv 0) rfl) (pa_cons (pe_tup (pa_cons pe_str (pa_cons (pv 3) pa_nil))) pa_nil)))))
        (pss_cons (ps_set (i := 4) scBegin.nd rfl (Or.inl rfl) (pe_listRg rfl rfl T.lst (prg_2 rfl T.rng (pv 2) (pB1 call_len_seq T.len (pe_fld (pv 0) rfl)))))
        (pss_one (ps_expr (pe_methSB (pv 0) T.cl bm2 F2 hr1 pass0 pe_str (pv 4)))))))
        (pss_one (ps_if (pt_cmpR op_eq (pv 1) pe_str (nomark _))
          (pss_one (ps_expr (pe_methR (pv 0) T.cl m2 F2 hr1 pass0 (pa_cons pe_str pa_nil))))
          (pss_one (ps_if (pt_cmpR op_eq (pv 1) pe_str (nomark _))
            (pss_one (ps_expr (pe_methR (pv 0) T.cl m2 F2 hr1 pass0 (pa_cons pe_str pa_nil))))
            (pss_one (ps_expr (pe_methR (pv 0) T.cl m2 F2 hr1 pass0 (pa_cons pe_str (pa_cons (pv 1) pa_nil))))))))))
      (pss_one (ps_fld (pv 0) pe_bl rfl)))), fun H1 s1 k1 G1 hB1 e => ?_⟩
    unfold RS.begin2 at e
    have hb1 := hB1.b
    have ho1 := hB1.o
    -- waiting.append
    have push : (c = 40 ∨ c = 126) → ∀ (Q2 : V → Hp → Prop), (∀ H', K4 p rl ol wl H H' → RdAt H' p dx rl ol wl C al t → Q2 .non H') → rAppend (.ref wl) [.str (S [c])] H1 Q2 := fun hc Q2 q2 => by
      rw [if_pos hc] at e
      cases e
      obtain ⟨G2, k2⟩ := G1.setW (xs := s1.wait ++ [c]) (vs := s1.wait.map sgV ++ [.str (S [c])]) (by rw [List.map_append]; rfl)
      exact ⟨wl, _, _, rfl, rfl, G1.w, small_lt (by rw [List.length_map]; omega), q2 _ (k1.trans k2) G2⟩
    refine ⟨_, rfl, rfl, _, rfl, ?_⟩
    refine ite2 (fun h1 => ?_) (fun h1 => ?_)
    · refine ite2 (fun _ => ?_) (fun z => absurd rfl z)
      refine ⟨_, rfl, p, C, dx, _, _, rfl, G1.o, T.cl, T.nW, rf_waiting _ _ _ _ _, .inl ⟨rfl, _, SqL.of G1.w⟩, _, rfl, ?_⟩
      exact push (.inl (sg_t c40 h1)) _ q
    refine ⟨_, rfl, rfl, _, rfl, ?_⟩
    refine ite2 (fun h2 => ?_) (fun h2 => ?_)
    · refine ⟨_, rfl, p, C, dx, _, _, rfl, G1.o, T.cl, T.nW, rf_waiting _ _ _ _ _, .inl ⟨rfl, _, SqL.of G1.w⟩, _, rfl, ?_⟩
      exact push (.inr (sg_t c126 h2)) _ q
    rw [if_neg (fun z => z.elim (sg_f c40 h1) (sg_f c126 h2))] at e
    refine ⟨_, rfl, rfl, _, rfl, ?_⟩
    refine ite2 (fun h3 => ?_) (fun h3 => ?_)
    · rw [if_pos (sg_t c46 h3)] at e
      obtain ⟨ts, g1, g2⟩ := G1.r
      have hlt : ts.length = s1.rows.length := Paired.length g2
      refine ⟨_, rfl, p, C, dx, _, _, rfl, G1.o, T.cl, T.nR, rf_rows _ _ _ _ _, rl, _, rfl, .inl (SqL.of g1), ?_⟩
      rw [show ((ts.map V.ref).length : Int) = ((s1.rows.length : Nat) : Int) by rw [List.length_map, hlt]]
      refine ⟨_, rfl, p, C, dx, _, _, rfl, G1.o, T.cl, T.nL, rf_letters _ _ _ _ _, _, rfl, ?_⟩
      refine L2.for_it L2.walk_str (fun i σ H' => ∃ (x : Option V), σ = [some (.ref p), some (.str (S [c])), some (.int (s1.rows.length : Int)), x, none] ∧ K4 p rl ol wl H H' ∧ RdAt H' p dx rl ol wl C al (s1.addL (al.take i)))
        ⟨none, rfl, k1, G1⟩ (fun _ _ _ _ _ => trivial) ?_ ?_
      · rintro i x σ H2 H3 hi ⟨x1, rfl, k2, G2⟩ ⟨rfl, l, hl, rfl⟩
        have hl' : al[i]? = some l := by
          rw [← hl]
          show al[i]? = al.toArray[i]?
          simp
        have hi3 : i < al.length := (List.getElem?_eq_some_iff.mp hl').1
        obtain ⟨ts2, p1, p2⟩ := G2.r
        have hl2 : ts2.length = s1.rows.length + i := by rw [Paired.length p2, addL_rows, List.length_take]; omega
        refine ⟨_, rfl, p, C, dx, _, _, rfl, G2.o, T.cl, T.nR, rf_rows _ _ _ _ _, .inl ⟨rfl, _, SqL.of p1⟩, _, rfl, by show 2 ≤ sizeLine; decide, fun t2 ht2 => ?_⟩
        have s6 := same_new ht2 (.tup [.str "letter", .str (S [l])])
        have ht2' : (upd H3 t2 (.tup [.str "letter", .str (S [l])])) t2 = some (.tup [.str "letter", .str (S [l])]) := upd_same
        have G6 := G2.same s6
        have p1' := s6 _ _ p1
        have p2' := Paired.mapP p2 fun _ _ z => s6 _ _ z
        obtain ⟨G7, k7⟩ := G6.addR p1' p2' ht2'
        refine ⟨rl, _, _, rfl, rfl, p1', small_lt (by rw [List.length_map]; omega), _, rfl, k2.trans ((K4.of s6).trans k7), ?_⟩
        rw [List.take_add_one, hl']
        show RdAt _ p dx rl ol wl C al (s1.addL (al.take i ++ [l]))
        rw [addL_snoc]
        exact G7
      · rintro σ H2 ⟨x1, rfl, k2, G2⟩
        have e2 : al.take (S al).cps.size = al := List.take_of_length_le (by show al.length ≤ al.toArray.size; simp)
        rw [e2] at G2
        obtain ⟨ts2, p1, p2⟩ := G2.r
        have hl2 : ts2.length = s1.rows.length + al.length := by rw [Paired.length p2, addL_rows]
        refine ⟨_, rfl, _, rfl, p, C, dx, _, _, rfl, G2.o, T.cl, T.nR, rf_rows _ _ _ _ _, rl, _, rfl, .inl (SqL.of p1), _, _, rfl, rfl, ?_⟩
        rw [show ((ts2.map V.ref).length : Int) = ((s1.rows.length + al.length : Nat) : Int) by rw [List.length_map, hl2]]
        have hrg : rgV (s1.rows.length : Int) ((s1.rows.length + al.length : Nat) : Int) = (List.range al.length).map fun i => RS.nV (s1.rows.length + i) := by
          unfold rgV
          rw [show (((s1.rows.length + al.length : Nat) : Int) - (s1.rows.length : Int)).toNat = al.length by omega]
          exact List.map_congr_left fun i _ => congrArg V.int (by omega)
        refine ⟨RgOk.of_le (by omega) (by omega) (by omega) (by omega), fun nl hnl => ?_⟩
        rw [hrg]
        have s3 := same_new hnl (.lst ((List.range al.length).map fun i => RS.nV (s1.rows.length + i)))
        have g3 : upd H2 nl (.lst ((List.range al.length).map fun i => RS.nV (s1.rows.length + i))) nl = some (.lst ((List.range al.length).map fun i => RS.nV (s1.rows.length + i))) := upd_same
        generalize upd H2 nl (.lst ((List.range al.length).map fun i => RS.nV (s1.rows.length + i))) = H3 at *
        have G3 := G2.same s3
        refine ⟨_, rfl, p, dx, _, rfl, G3.o, rf_no _ _ _ _ _ (by decide +kernel), fun mq hmq => ?_⟩
        have s4 := same_new hmq (.met f2 p)
        refine ⟨_, rfl, nl, _, rfl, .inr (SqL.of (s4 _ _ g3)), upd_same, p, dx, rl, ol, wl, al, s1.addL al, B + 4 + al.length, _, rfl, G3.same s4, RS.addL_ok hB1, by omega, by show (List.map _ _).length + 1 ≤ 1000; rw [List.length_map, List.length_range]; omega, fun H5 k5 G5 => ?_⟩
        refine ⟨_, rfl, p, C, dx, _, rfl, G5.o, T.cl, T.nB, (by show 5 < 1000; decide), ?_⟩
        obtain ⟨G6, k6⟩ := G5.setB (b := true) (putF_ready _ _ _ _ _ (.bl true))
        exact q _ (k2.trans ((K4.of s3).trans ((K4.of s4).trans (k5.trans k6)))) (e ▸ G6)
    rw [if_neg (sg_f c46 h3)] at e
    refine ⟨_, rfl, rfl, _, rfl, ?_⟩
    refine ite2 (fun h4 => ?_) (fun h4 => ?_)
    · rw [if_pos (sg_t c48 h4)] at e
      refine ⟨_, rfl, p, dx, _, rfl, G1.o, rf_no _ _ _ _ _ (by decide +kernel), p, dx, rl, ol, wl, al, s1, B + 4, [.str "or"], rfl, G1, hB1, by omega, by show 1 ≤ 1000; decide, fun H5 k5 G5 => ?_⟩
      refine ⟨_, rfl, p, C, dx, _, rfl, G5.o, T.cl, T.nB, (by show 5 < 1000; decide), ?_⟩
      obtain ⟨G6, k6⟩ := G5.setB (b := true) (putF_ready _ _ _ _ _ (.bl true))
      exact q _ (k1.trans (k5.trans k6)) (e ▸ G6)
    rw [if_neg (sg_f c48 h4)] at e
    refine ⟨_, rfl, rfl, _, rfl, ?_⟩
    refine ite2 (fun h5 => ?_) (fun h5 => ?_)
    · rw [if_pos (sg_t c49 h5)] at e
      refine ⟨_, rfl, p, dx, _, rfl, G1.o, rf_no _ _ _ _ _ (by decide +kernel), p, dx, rl, ol, wl, al, s1, B + 4, [.str "empty"], rfl, G1, hB1, by omega, by show 1 ≤ 1000; decide, fun H5 k5 G5 => ?_⟩
      refine ⟨_, rfl, p, C, dx, _, rfl, G5.o, T.cl, T.nB, (by show 5 < 1000; decide), ?_⟩
      obtain ⟨G6, k6⟩ := G5.setB (b := true) (putF_ready _ _ _ _ _ (.bl true))
      exact q _ (k1.trans (k5.trans k6)) (e ▸ G6)
    rw [if_neg (sg_f c49 h5)] at e
    refine ⟨_, rfl, p, dx, _, rfl, G1.o, rf_no _ _ _ _ _ (by decide +kernel), _, rfl, p, dx, rl, ol, wl, al, s1, B + 4, [.str "letter", .str (S [c])], rfl, G1, hB1, by omega, by show 2 ≤ 1000; decide, fun H5 k5 G5 => ?_⟩
    refine ⟨_, rfl, p, C, dx, _, rfl, G5.o, T.cl, T.nB, (by show 5 < 1000; decide), ?_⟩
    obtain ⟨G6, k6⟩ := G5.setB (b := true) (putF_ready _ _ _ _ _ (.bl true))
    exact q _ (k1.trans (k5.trans k6)) (e ▸ G6)
  obtain ⟨tb, htb, hk⟩ := tail
  refine ⟨_, pss_cons (ps_if (pt_truth (pe_fld (pv 0) rfl) (by intro _; rfl)) (pss_one (ps_expr (pe_meth (pv 0) T.cl m1 F1 hr b1 .nil pass0 (pa_cons pe_str pa_nil)))) pss_nil) htb, ?_⟩
  refine ⟨_, rfl, p, C, dx, _, _, rfl, G.o, T.cl, T.nB, rf_ready _ _ _ _ _, _, rfl, ?_⟩
  unfold RS.begin1 at hw
  refine ite2 (fun h1 => ?_) (fun h1 => ?_)
  · rw [if_pos h1] at hw
    split at hw
    · cases hw
    rename_i u hu
    cases hw
    exact ⟨_, rfl, p, dx, _, rfl, G.o, rf_no _ _ _ _ _ (by decide +kernel), p, dx, rl, ol, wl, al, s, u, B, 43, by rw [c43]; rfl, G, hB, by omega, hu, fun H1 k1 G1 => hk H1 u k1 G1 (RS.waitS_ok hB hu) rfl⟩
  · rw [if_neg h1] at hw
    cases hw
    exact hk H s (K4.of (Same.refl H)) G (hB.le (by omega)) rfl
end
end W8

set_option Elab.async false
set_option linter.all false
set_option maxRecDepth 100000
set_option maxHeartbeats 4000000
namespace W8
open PySem PySem.Spec PyProof.Rows L2 L2E
/-- the classes of errors that books raise -/
structure BkE (P : Program) (K : PySem.W.Frag) (mg : Str → Option Value) (c : Nat → Addr) (fT fN fL : Addr) : Prop where
  t : PySem.XM.XmC P K (c 11) (c 11) fT "index"
  n : PySem.XM.XmC P K (c 12) (c 12) fN "name"
  l : PySem.XM.XmC P K (c 15) (c 15) fL "limit"
  sup : mg "super" = none
  mT : mg "TextError" = some (.ref (c 11))
  mN : mg "NameFault" = some (.ref (c 12))
  mL : mg "LimitError" = some (.ref (c 15))
abbrev sClose : Stmt := inClass (top 45) 6
theorem scClose : FnScope ["self", "index"] ["self", "index"] (defScope sClose) := ⟨rfl, rfl, rfl, by decide +kernel, rfl, by decide +kernel, by decide +kernel⟩
def spClose (c : Nat → Addr) (C : Addr) : Sp := fun vs H Q E => ∃ (p dx rl ol wl : Addr) (al : List Nat) (s : RS) (r : Option RS) (B i : Nat), vs = [.ref p, .int (i : Int)] ∧ RdAt H p dx rl ol wl C al s ∧ RS.Ok s B ∧ B ≤ 90000 ∧ RS.close s = some r ∧ (∀ t, r = some t → ∀ H', K4 p rl ol wl H H' → RdAt H' p dx rl ol wl C al t → Q .non H') ∧ (r = none → ErrK E p rl ol wl (c 11) "index" (.int (i : Int)) H)
abbrev sTake : Stmt := inClass (top 45) 7
theorem scTake : FnScope ["self", "index", "char"] ["self", "index", "char"] (defScope sTake) := ⟨rfl, rfl, rfl, by decide +kernel, rfl, by decide +kernel, by decide +kernel⟩
def spTake (c : Nat → Addr) (C : Addr) : Sp := fun vs H Q E => ∃ (p dx rl ol wl : Addr) (al : List Nat) (s : RS) (r : Option RS) (B i ch : Nat), vs = [.ref p, .int (i : Int), .str (S [ch])] ∧ RdAt H p dx rl ol wl C al s ∧ RS.Ok s B ∧ B ≤ 80000 ∧ al.length ≤ 3 ∧ RS.take al s ch = some r ∧ (∀ t, r = some t → ∀ H', K4 p rl ol wl H H' → RdAt H' p dx rl ol wl C al t → Q .non H') ∧ (r = none → ErrK E p rl ol wl (c 11) "index" (.int (i : Int)) H)
theorem RdAt.some_ {H : Hp} {p dx rl ol wl C : Addr} {al : List Nat} {s : RS} (G : RdAt H p dx rl ol wl C al s) : H p ≠ none ∧ H rl ≠ none ∧ H ol ≠ none ∧ H wl ≠ none := by
  obtain ⟨ts, h1, _⟩ := G.r
  exact ⟨(by rw [G.o]; simp), (by rw [h1]; simp), (by rw [G.p]; simp), (by rw [G.w]; simp)⟩
theorem mem_sg {c : Nat} {z : Str} {l : List Nat} (e : z = S l) : (c ∈ z.cps.toList) ↔ c ∈ l := by
  rw [e]
  exact Iff.rfl
section
variable {P : Program} {w : World} {K : PySem.W.Frag} {mg : Str → Option Value} {base : Heap} {c : Nat → Addr} {fT fN fL : Addr}
theorem ok_close {f C D : Addr} {fd : FuncData} (F : Fun K "close" "Reader.close" sClose f fd) (T : RdT K w mg C D) (X : BkE P K mg c fT fN fL) (cd : MCal P w K mg base C "combine_down_to" 3 ["self", "binding"] (spDown C)) : FnOk P w K mg base (L2N.CX P w) 4 f fd ["self", "index"] (spClose c C) := by
  refine okN F scClose (fun vs H Q E h => ?_) (fun cdv A outer s H vs Q E hr h => ?_)
  · obtain ⟨p, dx, rl, ol, wl, al, s, r, B, i, rfl, _⟩ := h
    rfl
  obtain ⟨p, dx, rl, ol, wl, al, s, r, B, i, rfl, G, hB, hB9, hc, q, e0⟩ := h
  obtain ⟨f1, fd1, F1, m1, b1⟩ := cd.ex
  refine ⟨_, (pss_cons (ps_expr (pe_meth (pv 0) T.cl m1 F1 hr b1 .nil pass0 (pa_cons pe_int pa_nil)))
    (pss_cons (ps_if (pt_not (pt_truth (pe_fld (pv 0) rfl) (by intro _; rfl)))
      (pss_one (L2N.ps_raise rfl (L2N.takes_of rfl rfl rfl rfl) (L2N.pmk_xm X.t hr X.mT X.sup (pa_cons (pv 1) pa_nil))))
      pss_nil)
    (pss_one (ps_expr (pe_bm0 PySem.F.plainAttrs_list PySem.F.slot_list_pop PySem.F.type_list_pop mt_pop (pe_fld (pv 0) rfl)))))), ?_⟩
  unfold RS.close at hc
  split at hc
  · cases hc
  rename_i u hu
  refine ⟨_, rfl, p, dx, _, rfl, G.o, rf_no _ _ _ _ _ (by decide +kernel), p, dx, rl, ol, wl, al, s, u, B, 1, rfl, G, hB, hB9, hu, fun H1 k1 G1 => ?_⟩
  obtain ⟨n1, n2, n3, n4⟩ := G1.some_
  refine ⟨_, rfl, p, C, dx, _, _, rfl, G1.o, T.cl, T.nW, rf_waiting _ _ _ _ _, _, .inl ⟨_, SqL.of G1.w, rfl⟩, ?_⟩
  cases hw : u.wait with
  | nil =>
    rw [if_pos hw] at hc
    cases hc
    exact ⟨_, rfl, _, rfl, fun d hd => (e0 rfl).go k1 n1 n2 n3 n4 hd⟩
  | cons x xs =>
    rw [if_neg (by rw [hw]; exact fun z => nomatch z)] at hc
    cases hc
    obtain ⟨y, hy⟩ : ∃ y, u.wait.getLast? = some y := by
      cases z : u.wait.getLast? with
      | none => rw [List.getLast?_eq_none_iff.mp z] at hw; cases hw
      | some y => exact ⟨y, rfl⟩
    refine ⟨_, rfl, p, C, dx, _, _, rfl, G1.o, T.cl, T.nW, rf_waiting _ _ _ _ _, .inl ⟨rfl, _, SqL.of G1.w⟩, wl, _, _, rfl, rfl, G1.w, last_map sgV hy, ?_⟩
    obtain ⟨G2, k2⟩ := G1.setW (xs := u.wait.dropLast) (vs := (u.wait.map sgV).dropLast) List.map_dropLast.symm
    exact q _ rfl _ (k1.trans k2) G2
theorem ok_take {f C D : Addr} {fd : FuncData} (F : Fun K "take" "Reader.take" sTake f fd) (T : RdT K w mg C D) (X : BkE P K mg c fT fN fL) (cb : MCal P w K mg base C "begin" 5 ["self", "char"] (spBegin C)) (cw : MCal P w K mg base C "wait" 4 ["self", "sign"] (spWait C)) (cp : MCalR P w K mg base C "put" 1 (spPut C)) (cc : MCalX P w K mg base C "close" 4 ["self", "index"] (spClose c C)) : FnOk P w K mg base (L2N.CX P w) 6 f fd ["self", "index", "char"] (spTake c C) := by
  refine okN F scTake (fun vs H Q E h => ?_) (fun cdv A outer s H vs Q E hr h => ?_)
  · obtain ⟨p, dx, rl, ol, wl, al, s, r, B, i, ch, rfl, _⟩ := h
    rfl
  obtain ⟨p, dx, rl, ol, wl, al, s, r, B, i, ch, rfl, G, hB, hB8, h3, hc, q, e0⟩ := h
  obtain ⟨f1, fd1, F1, m1, b1⟩ := cb.ex
  obtain ⟨f2, fd2, F2, m2, b2⟩ := cw.ex
  obtain ⟨f3, F3, m3, bm3⟩ := cp.ex
  obtain ⟨f4, fd4, F4, m4, b4⟩ := cc.ex
  have hr1 := hr.mono (show 1 ≤ 5 by decide)
  have hr4 := hr.mono (show 4 ≤ 5 by decide)
  refine ⟨_, (pss_cons (ps_if (PW.pt (pw_or (pt_cmpR op_in_sign (pv 2) (pe_fld (pv 0) rfl) rfl) (pw_or1 (pt_cmpR op_in_sign (pv 2) pe_str rfl))))
      (pss_cons (ps_expr (pe_meth (pv 0) T.cl m1 F1 hr b1 .nil pass0 (pa_cons (pv 2) pa_nil)))
      (pss_one ps_retN))
      pss_nil)
    (pss_cons (ps_if (PW.pt (pw_or (pt_cmpR op_notIn_sign (pv 2) pe_str rfl) (pw_or1 (pt_not (pt_truth (pe_fld (pv 0) rfl) (by intro _; rfl))))))
      (pss_one (L2N.ps_raise rfl (L2N.takes_of rfl rfl rfl rfl) (L2N.pmk_xm X.t hr X.mT X.sup (pa_cons (pv 1) pa_nil))))
      pss_nil)
    (pss_one (ps_if (pt_cmpR op_eq (pv 2) pe_str (nomark _))
      (pss_one (ps_expr (pe_methR (pv 0) T.cl m3 F3 hr1 pass0 (pa_cons pe_str (pa_cons (pe_bm0 PySem.F.plainAttrs_list PySem.F.slot_list_pop PySem.F.type_list_pop mt_pop (pe_fld (pv 0) rfl)) pa_nil)))))
      (pss_one (ps_if (pt_cmpR op_eq (pv 2) pe_str (nomark _))
        (pss_one (ps_expr (pe_meth (pv 0) T.cl m4 F4 hr4 b4 .nil (L2N.passes_call (L2N.takes_of rfl rfl rfl rfl) (fun _ _ _ _ h => h)) (pa_cons (pv 1) pa_nil))))
        (pss_one (ps_expr (pe_meth (pv 0) T.cl m2 F2 hr4 b2 .nil pass0 (pa_cons (pv 2) pa_nil)))))))))), ?_⟩
  obtain ⟨n1, n2, n3, n4⟩ := G.some_
  unfold RS.take at hc
  have beg : (ch ∈ al ∨ ch ∈ [46, 48, 49, 40, 126]) → ∀ (Q2 : V → Hp → Prop), (∀ t, r = some t → ∀ H', K4 p rl ol wl H H' → RdAt H' p dx rl ol wl C al t → Q2 .non H') → ∀ E2, spBegin C [.ref p, .str (S [ch])] H Q2 E2 := fun h Q2 q2 E2 => by
    rw [if_pos h] at hc
    cases hb : RS.begin1 al s ch with
    | none => rw [hb] at hc; cases hc
    | some t =>
      rw [hb] at hc
      cases hc
      exact ⟨p, dx, rl, ol, wl, al, s, t, B, ch, rfl, G, hB, hB8, h3, hb, q2 t rfl⟩
  refine ⟨_, rfl, _, rfl, p, C, dx, _, _, rfl, G.o, T.cl, T.nL, rf_letters _ _ _ _ _, ch, S al, rfl, rfl, _, rfl, ?_⟩
  refine ite2 (fun h1 => ?_) (fun h1 => ?_)
  · refine ite2 (fun _ => ?_) (fun z => absurd rfl z)
    exact ⟨_, rfl, p, dx, _, rfl, G.o, rf_no _ _ _ _ _ (by decide +kernel), _, rfl, beg (.inl (of_decide_eq_true h1)) _ q E0⟩
  have h1' : ch ∉ al := fun z => h1 (decide_eq_true z)
  refine ⟨_, rfl, ch, _, rfl, rfl, _, rfl, ?_⟩
  refine ite2 (fun h2 => ?_) (fun h2 => ?_)
  · exact ⟨_, rfl, p, dx, _, rfl, G.o, rf_no _ _ _ _ _ (by decide +kernel), _, rfl, beg (.inr ((mem_sg (by decide +kernel)).mp (of_decide_eq_true h2))) _ q E0⟩
  have h2' : ch ∉ [46, 48, 49, 40, 126] := fun z => h2 (decide_eq_true ((mem_sg (by decide +kernel)).mpr z))
  rw [if_neg (fun z => z.elim h1' h2')] at hc
  clear beg
  refine ⟨_, rfl, ch, _, rfl, rfl, _, rfl, ?_⟩
  refine ite2 (fun h5 => ?_) (fun h5 => ?_)
  · refine ite2 (fun _ => ?_) (fun z => absurd rfl z)
    rw [if_pos (.inl fun z => decF h5 ((mem_sg (by decide +kernel)).mpr z))] at hc
    cases hc
    exact ⟨_, rfl, _, rfl, fun d hd => (e0 rfl).go (K4.of (Same.refl H)) n1 n2 n3 n4 hd⟩
  have h5' : ch ∈ [42, 124, 38, 41] := (mem_sg (by decide +kernel)).mp (decT h5)
  refine ⟨_, rfl, p, C, dx, _, _, rfl, G.o, T.cl, T.nB, rf_ready _ _ _ _ _, _, rfl, ?_⟩
  refine ite2 (fun h6 => ?_) (fun h6 => ?_)
  · have h6' : s.ready = false := by
      cases hh : s.ready with
      | false => rfl
      | true => rw [hh] at h6; cases h6
    rw [if_pos (.inr h6')] at hc
    cases hc
    exact ⟨_, rfl, _, rfl, fun d hd => (e0 rfl).go (K4.of (Same.refl H)) n1 n2 n3 n4 hd⟩
  have h6' : ¬ (s.ready = false) := fun z => h6 (by rw [z]; rfl)
  rw [if_neg (fun z => z.elim (fun y => y h5') h6')] at hc
  refine ⟨_, rfl, rfl, _, rfl, ?_⟩
  refine ite2 (fun h7 => ?_) (fun h7 => ?_)
  · rw [if_pos (sg_t c42 h7)] at hc
    split at hc
    · cases hc
    rename_i l hl
    cases hc
    refine ⟨_, rfl, p, dx, _, rfl, G.o, rf_no _ _ _ _ _ (by decide +kernel), _, rfl, p, C, dx, _, _, rfl, G.o, T.cl, T.nO, rf_operands _ _ _ _ _, .inl ⟨rfl, _, SqL.of G.p⟩, ol, _, _, rfl, rfl, G.p, last_map RS.nV hl, ?_⟩
    obtain ⟨G2, k2⟩ := G.setO (xs := s.ops.dropLast) (vs := (s.ops.map RS.nV).dropLast) List.map_dropLast.symm
    exact ⟨p, dx, rl, ol, wl, al, s.popO, B, [.str "again", RS.nV l], rfl, G2, RS.popO_ok hB, by omega, by show 2 ≤ 1000; decide, fun H3 k3 G3 => q _ rfl _ (k2.trans k3) G3⟩
  rw [if_neg (sg_f c42 h7)] at hc
  refine ⟨_, rfl, rfl, _, rfl, ?_⟩
  refine ite2 (fun h8 => ?_) (fun h8 => ?_)
  · rw [if_pos (sg_t c41 h8)] at hc
    exact ⟨_, rfl, p, dx, _, rfl, G.o, rf_no _ _ _ _ _ (by decide +kernel), _, rfl, p, dx, rl, ol, wl, al, s, r, B, i, rfl, G, hB, by omega, hc, q, e0⟩
  rw [if_neg (sg_f c41 h8)] at hc
  cases hw : RS.waitS s ch with
  | none => rw [hw] at hc; cases hc
  | some t =>
    rw [hw] at hc
    cases hc
    exact ⟨_, rfl, p, dx, _, rfl, G.o, rf_no _ _ _ _ _ (by decide +kernel), _, rfl, p, dx, rl, ol, wl, al, s, t, B, ch, rfl, G, hB, by omega, hw, q t rfl⟩
end
end W8

set_option Elab.async false
set_option linter.all false
/-! the rows that the reader makes fit -/
namespace W8
open PySem L2
def RowOk (al : List Nat) (at_ : Nat) (r : Row) : Prop := (∃ c ∈ al, r = [.str "letter", .str (S [c])]) ∨ ∃ (kd : Str) (ps : List Nat), r = .str kd :: ps.map RS.nV ∧ ps.length ≤ 3 ∧ (∀ x ∈ ps, x < at_) ∧
  (kd = "or" ∨ (kd = "empty" ∧ ps.length = 0) ∨ (kd = "not" ∧ ps.length = 1) ∨ (kd = "again" ∧ ps.length = 1) ∨ (kd = "then" ∧ ps.length = 2))
namespace RS
structure Good (al : List Nat) (s : RS) : Prop where
  rows : ∀ i r, s.rows[i]? = some r → RowOk al i r
  ops : ∀ x ∈ s.ops, x < s.rows.length
  rdy : s.ready = true → s.rows ≠ []
variable {al : List Nat} {s t : RS}
theorem good_addR {r : Row} (h : Good al s) (hr : RowOk al s.rows.length r) : Good al (s.addR r) := by
  refine ⟨fun i r' e => ?_, fun x hx => ?_, fun hb => ?_⟩
  · replace e : (s.rows ++ [r])[i]? = some r' := e
    rw [List.getElem?_append] at e
    split at e
    · exact h.rows i r' e
    · rename_i hi
      have e2 : i - s.rows.length = 0 := by
        rcases Nat.eq_zero_or_pos (i - s.rows.length) with z | z
        · exact z
        · rw [List.getElem?_eq_none (by show 1 ≤ _; omega)] at e
          cases e
      rw [e2] at e
      cases e
      have : i = s.rows.length := by omega
      rw [this]
      exact hr
  · show x < (s.rows ++ [r]).length
    rw [List.length_append]
    have := h.ops x hx
    omega
  · show s.rows ++ [r] ≠ []
    simp
theorem good_put {r : Row} (h : Good al s) (hr : RowOk al s.rows.length r) : Good al (s.put r) := by
  have g := good_addR h hr
  refine ⟨g.rows, fun x hx => ?_, g.rdy⟩
  show x < (s.rows ++ [r]).length
  rw [List.length_append]
  rcases List.mem_append.mp (show x ∈ s.ops ++ [s.rows.length] from hx) with z | z
  · have := h.ops x z
    omega
  · rw [List.mem_singleton.mp z]
    exact Nat.lt_succ_self _
theorem good_popO (h : Good al s) : Good al s.popO := ⟨h.rows, fun x hx => h.ops x ((List.dropLast_sublist s.ops).subset hx), h.rdy⟩
theorem good_popW (h : Good al s) : Good al s.popW := ⟨h.rows, h.ops, h.rdy⟩
theorem good_addW {c : Nat} (h : Good al s) : Good al (s.addW c) := ⟨h.rows, h.ops, h.rdy⟩
theorem good_setF (h : Good al s) : Good al (s.setB false) := ⟨h.rows, h.ops, fun z => nomatch z⟩
theorem good_setT (h : Good al s) (hr : s.rows ≠ []) : Good al (s.setB true) := ⟨h.rows, h.ops, fun _ => hr⟩
theorem Good.last_lt (h : Good al s) {l : Nat} (e : s.ops.getLast? = some l) : l < s.rows.length := h.ops l (List.mem_of_getLast? e)
theorem row1 {kd : Str} {l n : Nat} (hk : kd = "not" ∨ kd = "again") (hl : l < n) : RowOk al n [.str kd, nV l] :=
  .inr ⟨kd, [l], rfl, by show 1 ≤ 3; decide, fun x hx => by rw [List.mem_singleton.mp hx]; exact hl, by
    rcases hk with e | e
    · exact .inr (.inr (.inl ⟨e, rfl⟩))
    · exact .inr (.inr (.inr (.inl ⟨e, rfl⟩)))⟩
theorem row2 {kd : Str} {l m n : Nat} (hk : kd = "or" ∨ kd = "then") (hl : l < n) (hm : m < n) : RowOk al n [.str kd, nV l, nV m] :=
  .inr ⟨kd, [l, m], rfl, by show 2 ≤ 3; decide, fun x hx => by
    rcases List.mem_cons.mp hx with e | e
    · rw [e]; exact hl
    · rw [List.mem_singleton.mp e]; exact hm, by
    rcases hk with e | e
    · exact .inl e
    · exact .inr (.inr (.inr (.inr ⟨e, rfl⟩)))⟩
theorem good_combine (h : Good al s) (e : combine s = some t) : Good al t := by
  unfold combine at e
  split at e
  · rename_i c l hc hl
    have hl' := h.last_lt hl
    split at e
    · cases e
      exact good_put (good_popO (good_popW h)) (row1 (.inl rfl) hl')
    · split at e
      · rename_i f hf
        have hf' : f < s.rows.length := (good_popO h).last_lt hf
        have hp := good_popO (good_popO (good_popW h))
        split at e
        · cases e
          exact good_put hp (row2 (.inr rfl) hf' hl')
        · split at e
          · cases e
            exact good_put hp (row2 (.inl rfl) hf' hl')
          · cases e
            have a1 := good_addR hp (r := [.str "not", nV f]) (row1 (.inl rfl) hf')
            have n1 : (s.popW.popO.popO.addR [.str "not", nV f]).rows.length = s.rows.length + 1 := by
              show (s.rows ++ [_]).length = _
              rw [List.length_append] <;> rfl
            have a2 := good_addR a1 (r := [.str "not", nV l]) (row1 (.inl rfl) (by rw [n1]; omega))
            have n2 : ((s.popW.popO.popO.addR [.str "not", nV f]).addR [.str "not", nV l]).rows.length = s.rows.length + 2 := by
              show ((s.rows ++ [_]) ++ [_]).length = _
              rw [List.length_append, List.length_append] <;> rfl
            have a3 := good_addR a2 (r := [.str "or", nV s.rows.length, nV (s.rows.length + 1)]) (row2 (.inl rfl) (by rw [n2]; omega) (by rw [n2]; omega))
            have n3 : (((s.popW.popO.popO.addR [.str "not", nV f]).addR [.str "not", nV l]).addR [.str "or", nV s.rows.length, nV (s.rows.length + 1)]).rows.length = s.rows.length + 3 := by
              show (((s.rows ++ [_]) ++ [_]) ++ [_]).length = _
              rw [List.length_append, List.length_append, List.length_append] <;> rfl
            exact good_put a3 (row1 (.inl rfl) (by rw [n3]; omega))
      · cases e
  · cases e
theorem good_down {b : Nat} : ∀ {n : Nat} {s t : RS}, Good al s → down b n s = some t → Good al t
  | 0, _, _, _, e => by cases e
  | n + 1, s, t, h, e => by
    unfold down at e
    split at e
    · cases e; exact h
    · split at e
      · cases e
      · split at e
        · split at e
          · cases e
          · rename_i u hu
            exact good_down (good_combine h hu) e
        · cases e; exact h
theorem good_wait {c : Nat} (h : Good al s) (e : waitS s c = some t) : Good al t := by
  unfold waitS at e
  split at e
  · cases e
  · split at e
    · cases e
    · rename_i u hu
      cases e
      exact good_setF (good_addW (good_down h hu))
theorem good_addL : ∀ (ls : List Nat) {s : RS}, Good al s → (∀ c ∈ ls, c ∈ al) → Good al (s.addL ls)
  | [], _, h, _ => h
  | l :: ls, s, h, hs => good_addL ls (good_addR h (.inl ⟨l, hs l (List.mem_cons_self), rfl⟩)) fun c hc => hs c (List.mem_cons_of_mem _ hc)
theorem addL_len : ∀ (ls : List Nat) (s : RS), (s.addL ls).rows.length = s.rows.length + ls.length
  | [], s => rfl
  | x :: ls, s => by
    show ((s.addR _).addL ls).rows.length = _
    rw [addL_len ls]
    show (s.rows ++ [_]).length + ls.length = s.rows.length + (ls.length + 1)
    rw [List.length_append]
    show s.rows.length + 1 + ls.length = _
    omega
theorem put_ne {r : Row} : (s.put r).rows ≠ [] := by
  show s.rows ++ [r] ≠ []
  simp
theorem good_begin2 {c : Nat} (h : Good al s) (h3 : al.length ≤ 3) (hc : c ∈ al ∨ c ∈ [46, 48, 49, 40, 126]) : Good al (begin2 al s c) := by
  unfold begin2
  split
  · exact good_addW h
  · rename_i n1
    split
    · refine good_setT (good_put (good_addL al h fun c hc => hc) (.inr ⟨"or", (List.range al.length).map (s.rows.length + ·), ?_, by rw [List.length_map, List.length_range]; exact h3, fun x hx => ?_, .inl rfl⟩)) put_ne
      · rw [List.map_map]
        rfl
      · obtain ⟨i, hi, rfl⟩ := List.mem_map.mp hx
        have := List.mem_range.mp hi
        rw [addL_len]
        omega
    · rename_i n2
      split
      · exact good_setT (good_put h (.inr ⟨"or", [], rfl, by decide, fun x hx => (by cases hx), .inl rfl⟩)) put_ne
      · rename_i n3
        split
        · exact good_setT (good_put h (.inr ⟨"empty", [], rfl, by decide, fun x hx => (by cases hx), .inr (.inl ⟨rfl, rfl⟩)⟩)) put_ne
        · rename_i n4
          refine good_setT (good_put h (.inl ⟨c, ?_, rfl⟩)) put_ne
          rcases hc with z | z
          · exact z
          · simp only [List.mem_cons, List.not_mem_nil, or_false] at z
            omega
theorem good_begin1 {c : Nat} (h : Good al s) (h3 : al.length ≤ 3) (hc : c ∈ al ∨ c ∈ [46, 48, 49, 40, 126]) (e : begin1 al s c = some t) : Good al t := by
  unfold begin1 at e
  split at e
  · split at e
    · cases e
    · rename_i u hu
      cases e
      exact good_begin2 (good_wait h hu) h3 hc
  · cases e
    exact good_begin2 h h3 hc
theorem good_take {c : Nat} (h : Good al s) (h3 : al.length ≤ 3) (e : take al s c = some (some t)) : Good al t := by
  unfold take at e
  split at e
  · rename_i hc
    cases hb : begin1 al s c with
    | none => rw [hb] at e; cases e
    | some u => rw [hb] at e; cases e; exact good_begin1 h h3 hc hb
  · split at e
    · cases e
    · split at e
      · split at e
        · cases e
        · rename_i l hl
          cases e
          exact good_put (good_popO h) (row1 (.inr rfl) (h.last_lt hl))
      · split at e
        · unfold close at e
          split at e
          · cases e
          · rename_i u hu
            split at e
            · cases e
            · cases e
              exact good_popW (good_down h hu)
        · cases hw : waitS s c with
          | none => rw [hw] at e; cases e
          | some u => rw [hw] at e; cases e; exact good_wait h hw
theorem good_init : Good al init := ⟨(fun i r e => by simp [init] at e), (fun x hx => by cases hx), (fun e => by cases e)⟩
theorem readL_mid : ∀ {xs ys : List Nat} {i : Nat} {s t : RS}, readL al xs i s = some (.inr t) → readL al (xs ++ ys) i s = readL al ys (i + xs.length) t
  | [], _, _, _, _, e => by cases e; rfl
  | x :: xs, ys, i, s, t, e => by
    unfold readL at e
    show readL al (x :: (xs ++ ys)) i s = _
    rw [readL]
    split at e
    · cases e
    · cases e
    · rename_i u hu
      show readL al (xs ++ ys) (i + 1) u = _
      rw [readL_mid e]
      show _ = readL al ys (i + (xs.length + 1)) t
      rw [show i + 1 + xs.length = i + (xs.length + 1) by omega]
end RS
end W8

set_option Elab.async false
set_option linter.all false
set_option maxRecDepth 100000
set_option maxHeartbeats 4000000
/-! list(text) -/
namespace L2
open PySem PySem.Spec PyProof.Rows
def sigL (z : Str) : List V := z.cps.toList.map fun c => V.str ⟨#[c]⟩
theorem call_listS {X : Cx} (hc : X.calm = true) : CallR X (.type "list") (fun xs H Q => ∃ z, xs = [V.str z] ∧ z.length ≤ sizeLine ∧ ∀ l, H l = none → Q (.ref l) (upd H l (.lst (sigL z)))) := by
  intro pins s σ H xs us Q I r h
  obtain ⟨z, rfl, hz, q⟩ := h
  obtain ⟨u, rfl, rx⟩ := vals1 r
  obtain ⟨t, rfl⟩ := rx
  refine call_list_str (I.ok.hd hc) z t (hn := hz) fun h' tk acc' c' kp e hacc => ?_
  have hlen : (sigL z).length = z.length := by
    unfold sigL
    rw [List.length_map, Array.length_toList]
    rfl
  have r' : Vals (sigL z) acc'.toList := by
    refine vals_of_at (by rw [hlen, Array.length_toList, hacc.1]; rfl) fun j x w h1 h2 => ?_
    obtain ⟨c, t', hcj, rfl⟩ := hacc.2 j w (by rw [← Array.getElem?_toList]; exact h2)
    unfold sigL at h1
    rw [List.getElem?_map, Array.getElem?_toList, hcj] at h1
    cases h1
    exact ⟨t', rfl⟩
  exact ⟨.ref s.heap.objs.size, _, I.laid (t' := tk) kp (Nat.le_refl _) (show ObjOk X.prog X.w _ h' _ (.lst (sigL z)) from ⟨by rw [hlen]; exact hz, acc'.toList, c', r', by rw [Array.toArray_toList]; exact e⟩), rfl, q _ (I.hok.fresh (Nat.le_refl _))⟩
end L2

set_option Elab.async false
set_option linter.all false
set_option maxRecDepth 100000
set_option maxHeartbeats 4000000
namespace W8
open PySem PySem.Spec PyProof.Rows L2 L2E
structure PtT (K : PySem.W.Frag) (w : World) (mg : Str → Option Value) (C D : Addr) : Prop where
  cl : Cls K C
  nL : NoAttr K C "letters"
  nR : NoAttr K C "rows"
  mr : ∃ u, Con K C "MOST_ROWS" (.int 16000) u
  mgC : mg "Pattern" = some (.ref C)
  mgP : mg "PARTS" = some (.ref D)
  kd : ∃ es n, KDict K w D es n
  k0 : KDct K w D "empty" (.int 0)
  k1 : KDct K w D "not" (.int 1)
  k2 : KDct K w D "again" (.int 1)
  k3 : KDct K w D "then" (.int 2)
  S : SameT mg
  en : mg "enumerate" = none
abbrev sFits : Stmt := top 35
theorem scFits : FnScope ["row", "at", "letters", "kind", "part"] ["row", "at", "letters"] (defScope sFits) := ⟨rfl, rfl, rfl, by decide +kernel, rfl, by decide +kernel, by decide +kernel⟩
def spFits : Sp := fun vs H Q _ => ∃ (t : Addr) (i : Nat) (al : List Nat) (row : Row), vs = [.ref t, .int (i : Int), .str (S al)] ∧ H t = some (.tup row) ∧ RowOk al i row ∧ al.length ≤ 3 ∧ ∀ H', Same H H' → Q (.bl true) H'
abbrev sPInit : Stmt := inClass (top 38) 1
theorem scPInit : FnScope ["self", "letters", "rows", "at", "row"] ["self", "letters", "rows"] (defScope sPInit) := ⟨rfl, rfl, rfl, by decide +kernel, rfl, by decide +kernel, by decide +kernel⟩
def ptf (l r : V) : List (Str × V) := [("letters", l), ("rows", r)]
theorem ptf_letters (l r : V) : (ptf l r).lookup ("letters" : Str) = some l := by rfl
theorem ptf_rows (l r : V) : (ptf l r).lookup ("rows" : Str) = some r := by rfl
/-- a pattern with these rows -/
structure PatAt (H : Hp) (p C : Addr) (al : List Nat) (rows : List Row) : Prop where
  ex : ∃ (dx rt : Addr) (ts : List Addr), H p = some (.ins C dx (ptf (.str (S al)) (.ref rt))) ∧ H rt = some (.tup (ts.map V.ref)) ∧ Paired (fun (t : Addr) (row : Row) => H t = some (.tup row)) ts rows
theorem PatAt.mono {H H' : Hp} {p C : Addr} {al : List Nat} {rows : List Row} (h : PatAt H p C al rows) (s : Same H H') : PatAt H' p C al rows := by
  obtain ⟨dx, rt, ts, a, b, c⟩ := h.ex
  exact ⟨dx, rt, ts, s _ _ a, s _ _ b, Paired.mapP c fun _ _ z => s _ _ z⟩
def spPInit (C : Addr) : Sp := fun vs H Q _ => ∃ (p dx rl : Addr) (al : List Nat) (rows : List Row), vs = [.ref p, .str (S al), .ref rl] ∧ H p = some (.ins C dx []) ∧ AlphOk al ∧ Rows H rl rows ∧ rows ≠ [] ∧ rows.length ≤ 16000 ∧ (∀ i r, rows[i]? = some r → RowOk al i r) ∧
  ∀ H', But p H H' → PatAt H' p C al rows → Q .non H'
theorem inV_sig {c : Nat} {al : List Nat} (h : c ∈ al) : inV (.str (S [c])) (sigL (S al)) = true := by
  unfold inV sigL
  rw [List.any_eq_true]
  refine ⟨.str (S [c]), List.mem_map.mpr ⟨c, h, rfl⟩, ?_⟩
  show ((S [c]) == (S [c])) = true
  exact beq_self_eq_true _
theorem flat_sig (al : List Nat) : (sigL (S al)).all flatV = true := by
  rw [List.all_eq_true]
  intro v hv
  unfold sigL at hv
  obtain ⟨c, _, rfl⟩ := List.mem_map.mp hv
  rfl
theorem cut1 (x : V) (xs : List V) : cutV (x :: xs) (some 1) none = xs := by
  unfold cutV
  have e1 : HT.sIx (x :: xs).length 0 (some 1) = 1 := by
    rw [show (1 : Int) = ((1 : Nat) : Int) from rfl, HT.sIx_nat, List.length_cons]
    omega
  rw [e1, HT.sIx_none, List.length_cons, Nat.add_sub_cancel]
  show xs.take xs.length = xs
  exact List.take_length
theorem at0 (x : V) (xs : List V) : atI (x :: xs) 0 = some x := by
  unfold atI ixN
  simp
section
variable {P : Program} {w : World} {K : PySem.W.Frag} {mg : Str → Option Value} {base : Heap}
theorem ok_fits {f C D : Addr} {fd : FuncData} (F : Fun K "fits" "fits" sFits f fd) (T : PtT K w mg C D) : FnOk P w K mg base CX0 1 f fd ["row", "at", "letters"] spFits := by
  refine F.ok scFits (fun vs H Q E h => ?_) (fun cdv A outer sh H vs Q E hr h => ?_)
  · obtain ⟨t, i, al, row, rfl, _⟩ := h
    rfl
  obtain ⟨t, i, al, row, rfl, ht, hrow, hal, q⟩ := h
  obtain ⟨es, n, kd⟩ := T.kd
  have tail : ∃ tb, PSs (cxOf CX0 P w K mg base ["row", "at", "letters", "kind", "part"] "fits" (defScope sFits) f cdv A outer sh H E).nox ((defBody sFits).drop 3) tb ∧ ∀ (kd' : Str) (ps : List Nat), row = .str kd' :: ps.map RS.nV → ps.length ≤ 3 → (∀ x ∈ ps, x < i) →
      tb { nx := fun _ H' => Q .non H', rt := Q } [some (.ref t), some (.int (i : Int)), some (.str (S al)), some (.str kd'), none] H := by
    refine ⟨_, (pss_cons (ps_for PassesOwn.never rfl (pi_tup (pe_slice sl_tupA (pv 0) (po_some pe_int) po_none)) (pg_name (i := 4) scFits.nd rfl (Or.inl rfl))
        (pss_one (ps_if (PW.pt (pw_or (pt_not (pt_val (pe_callB call_isi (by rfl) T.S.isinstance (by decide +kernel) (pa_cons (pv 4) (pa_cons (pe_bltn (v := .ty "int") (by rfl) T.S.int (by decide +kernel) rfl) pa_nil))))) (pw_or1 (pt_not (pt_chain op_le op_lt pe_int (pv 4) (pv 1))))))
          (pss_one (ps_ret pe_bl))
          pss_nil)))
      (pss_one (ps_ret pe_bl))), fun kd' ps er hp3 hlt => ?_⟩
    subst er
    have len3 : (V.str kd' :: ps.map RS.nV).length = ps.length + 1 := by rw [List.length_cons, List.length_map]
    have ne1 : ¬ (HT.sIx (V.str kd' :: ps.map RS.nV).length 0 (some 1) = 0 ∧ HT.sIx (V.str kd' :: ps.map RS.nV).length (V.str kd' :: ps.map RS.nV).length none = (V.str kd' :: ps.map RS.nV).length) := by
      rintro ⟨z, _⟩
      rw [show (1 : Int) = ((1 : Nat) : Int) from rfl, HT.sIx_nat, len3] at z
      omega
    refine ⟨_, rfl, _, rfl, t, _, rfl, SqT.of ht, fun z => absurd z ne1, fun _ r hr => ?_⟩
    rw [cut1]
    have s1 := same_new hr (.tup (ps.map RS.nV))
    have hr1 : upd H r (.tup (ps.map RS.nV)) r = some (.tup (ps.map RS.nV)) := upd_same
    generalize upd H r (.tup (ps.map RS.nV)) = H1 at *
    refine ⟨r, rfl, ⟨_, SqT.of hr1⟩, ?_⟩
    refine L2.for_it (L2.walk_tup (xs := ps.map RS.nV)) (fun j σ H' => ∃ x : Option V, σ = [some (.ref t), some (.int (i : Int)), some (.str (S al)), some (.str kd'), x] ∧ H' = H1) ⟨none, rfl, rfl⟩ (fun _ _ _ _ ⟨_, _, e⟩ => by rw [e]; exact SqT.of hr1) ?_ ?_
    · rintro j x σ H2 H3 hj ⟨x1, rfl, rfl⟩ ⟨rfl, hx⟩
      rw [List.getElem?_map] at hx
      cases hp : ps[j]? with
      | none => rw [hp] at hx; cases hx
      | some y =>
        rw [hp] at hx
        cases hx
        have hy := hlt y (List.mem_of_getElem? hp)
        refine ⟨_, rfl, _, _, _, _, _, rfl, .ty _, dp_ty (.int (y : Int)), kit_int (.int (y : Int)), _, rfl, ?_⟩
        refine ite2 (fun z => (by cases z)) (fun _ => ?_)
        refine ⟨_, rfl, _, _, rfl, rfl, _, rfl, ?_⟩
        refine ite2 (fun _ => ?_) (fun z => absurd (decide_eq_true (by omega)) z)
        refine ⟨_, rfl, _, _, rfl, rfl, _, rfl, ?_⟩
        refine ite2 (fun z => ?_) (fun _ => ⟨_, rfl, rfl⟩)
        rw [decide_eq_true (show ((y : Int) < (i : Int)) by omega)] at z
        cases z
    · rintro σ H2 ⟨x1, rfl, rfl⟩
      exact q _ s1
  obtain ⟨tb, htb, hk2⟩ := tail
  refine ⟨_, (pss_cons (ps_set (i := 3) scFits.nd rfl (Or.inl rfl) (pixT (pv 0) pe_int))
    (pss_cons (ps_if (pt_cmpR op_eq (pv 3) pe_str (nomark _))
      (pss_one (ps_ret (pe_and (pe_cmpR op_eq (pB1 call_len_seq T.S.len (pv 0)) pe_int (nomark _)) (pe_one (pe_cmpR op_in_seq (pixT (pv 0) pe_int) (pT1 (call_listS rfl) T.S.list (pv 2)) rfl)))))
      pss_nil)
    (pss_cons (ps_if (PW.pt (pw_and (pt_cmpR op_ne (pv 3) pe_str (nomark _)) (pw_and1 (PW.pt (pw_or (pt_cmpR (op_notIn_kd kd) (pv 3) (pe_glob (v := .ref D) rfl T.mgP rfl) rfl) (pw_or1 (pt_cmpR op_ne (pB1 call_len_seq T.S.len (pv 0)) (pe_op op_add pe_int (pe_ix ix_kdict (pe_glob (v := .ref D) rfl T.mgP rfl) (pv 3) (fun _ _ => rfl))) (nomark _))))))))
      (pss_one (ps_ret pe_bl))
      pss_nil)
    htb))), ?_⟩
  rcases hrow with ⟨c, hc, rfl⟩ | ⟨kd', ps, rfl, hp3, hlt, hk⟩
  · refine ⟨_, rfl, t, _, _, _, rfl, rfl, SqT.of ht, rfl, ?_⟩
    refine ⟨_, rfl, rfl, _, rfl, ?_⟩
    refine ite2 (fun _ => ?_) (fun z => absurd (decide_eq_true rfl) z)
    refine ⟨_, rfl, t, _, rfl, .inr (SqT.of ht), rfl, _, rfl, ?_⟩
    refine ite2 (fun _ => ?_) (fun z => absurd (decide_eq_true rfl) z)
    refine ⟨_, rfl, t, _, _, _, rfl, rfl, SqT.of ht, rfl, _, rfl, _, rfl, by rw [S_len]; exact sz (by omega), fun l hl => ?_⟩
    refine ⟨l, _, rfl, .inl (SqL.of upd_same), rfl, flat_sig al, ?_⟩
    rw [show (if false = true then !inV (V.str (S [c])) (sigL (S al)) else inV (V.str (S [c])) (sigL (S al))) = true from inV_sig hc]
    exact q _ (same_new hl _)
  · refine ⟨_, rfl, t, _, _, _, rfl, rfl, SqT.of ht, at0 _ _, ?_⟩
    have len3 : (V.str kd' :: ps.map RS.nV).length = ps.length + 1 := by rw [List.length_cons, List.length_map]
    have nl : kd' ≠ ("letter" : Str) := by
      rcases hk with rfl | ⟨rfl, _⟩ | ⟨rfl, _⟩ | ⟨rfl, _⟩ | ⟨rfl, _⟩ <;> decide +kernel
    refine ⟨_, rfl, rfl, _, rfl, ?_⟩
    refine ite2 (fun z => absurd (by injection of_decide_eq_true z) nl) (fun _ => ?_)
    have fin := hk2 kd' ps rfl hp3 hlt
    refine ⟨_, rfl, rfl, _, rfl, ?_⟩
    refine ite2 (fun e1 => ?_) (fun e1 => ?_)
    · have hno : kd' ≠ ("or" : Str) := fun z => by rw [z] at e1; simp at e1
      obtain ⟨m, km, hm⟩ : ∃ m : Nat, KDct K w D kd' (.int (m : Int)) ∧ ps.length = m := by
        rcases hk with e | ⟨rfl, h⟩ | ⟨rfl, h⟩ | ⟨rfl, h⟩ | ⟨rfl, h⟩
        · exact absurd e hno
        · exact ⟨0, T.k0, h⟩
        · exact ⟨1, T.k1, h⟩
        · exact ⟨1, T.k2, h⟩
        · exact ⟨2, T.k3, h⟩
      obtain ⟨es', n', u, hl', hk', hn', hu'⟩ := km
      refine ⟨_, rfl, kd', _, rfl, rfl, hn', _, rfl, ?_⟩
      refine ite2 (fun z => (by cases z)) (fun _ => ?_)
      refine ⟨_, rfl, t, _, rfl, .inr (SqT.of ht), _, rfl, D, _, _, rfl, rfl, ⟨es', n', u, hl', hk', hn', hu'⟩, _, _, rfl, rfl, rfl, _, rfl, ?_⟩
      refine ite2 (fun z => ?_) (fun _ => fin)
      exfalso
      rw [len3, hm] at z
      have e9 : V.int (((m + 1 : Nat)) : Int) = V.int (1 + (m : Int)) := congrArg V.int (by omega)
      rw [e9] at z
      simp at z
    · exact fin
end
end W8

set_option Elab.async false
set_option linter.all false
set_option maxRecDepth 100000
set_option maxHeartbeats 4000000
namespace W8
open PySem PySem.Spec PyProof.Rows L2 L2E
theorem But.same0 {a : Addr} {H H' : Hp} (s : Same H H') : But a H H' := fun b o _ e => s b o e
section
variable {P : Program} {w : World} {K : PySem.W.Frag} {mg : Str → Option Value} {base : Heap}
theorem ok_pinit {f C D : Addr} {fd : FuncData} (F : Fun K "__init__" "Pattern.__init__" sPInit f fd) (T : PtT K w mg C D) (ccheck_letters : Cal P w K mg base "check_letters" 1 ["letters"] spCheckL) (cfits : Cal P w K mg base "fits" 1 ["row", "at", "letters"] spFits) : FnOk P w K mg base CX0 2 f fd ["self", "letters", "rows"] (spPInit C) := by
  refine F.ok scPInit (fun vs H Q E h => ?_) (fun cdv A outer s H vs Q E hr h => ?_)
  · obtain ⟨p, dx, rl, al, rows, rfl, _⟩ := h
    rfl
  obtain ⟨p, dx, rl, al, rows, rfl, hp, hA, ⟨ts, h1, h2⟩, hne, hsz, hok, q⟩ := h
  obtain ⟨uM, tM⟩ := T.mr
  have hl : ts.length = rows.length := Paired.length h2
  refine ⟨_, (pss_cons (ps_fld (pv 0) (pcall ccheck_letters hr (pa_cons (pv 1) pa_nil)) rfl)
    (pss_cons (ps_if (pt_cmpR op_gt (pB1 call_len_seq T.S.len (pv 2)) (pe_con (pv 0) rfl) (nomark _))
      (pss_one ps_never)
      pss_nil)
    (pss_cons (ps_if (pt_cmpR op_eq (pB1 call_len_seq T.S.len (pv 2)) pe_int (nomark _))
      (pss_one ps_never)
      pss_nil)
    (pss_cons (ps_for PassesOwn.never rfl (pi_enum (by rfl) T.en (pa_cons (pv 2) pa_nil)) (pg_tup (by rfl) (pgs_cons (pg_name (i := 3) scPInit.nd rfl (Or.inl rfl)) (pgs_cons (pg_name (i := 4) scPInit.nd rfl (Or.inl rfl)) pgs_nil)))
      (pss_one (ps_if (pt_not (pt_truth (pcall cfits hr (pa_cons (pv 4) (pa_cons (pv 3) (pa_cons (pv 1) pa_nil)))) (by intro _; rfl)))
        (pss_one ps_never)
        pss_nil)))
    (pss_one (ps_fld (pv 0) (pT1 call_tuple_of T.S.tuple (pe_lc (own := [("row", 4)]) (g := gName 4) (tt := tYes) rfl scPInit.nd (pi_list (pv 2)) (blkOk_by (own := [("row", 4)]) (N := ["self", "letters", "rows", "at", "row"]) (sc := defScope sPInit) (by decide +kernel)) (fun _ _ _ _ _ => (pg_name (i := 4) scPInit.nd rfl (Or.inl rfl))) (fun _ _ _ _ _ => pts_nil) (fun _ _ _ _ _ => (pT1 (T := "tuple") (r := rTupOf K) cr_tupOf T.S.tuple (pv 4))))) rfl)))))), ?_⟩
  refine ⟨_, rfl, al, rfl, hA, _, rfl, p, C, dx, _, rfl, hp, T.cl, T.nL, (by show 0 < 1000; decide), ?_⟩
  have b0 : But p H (upd H p (.ins C dx (putF "letters" (.str (S al)) []))) := But.upd
  have hp0 : upd H p (.ins C dx (putF "letters" (.str (S al)) [])) p = some (.ins C dx (putF "letters" (.str (S al)) [])) := upd_same
  generalize upd H p (.ins C dx (putF "letters" (.str (S al)) [])) = H0 at *
  have h1 : H0 rl = some (.lst (ts.map V.ref)) := b0 _ _ (ne_of h1 hp (fun z => nomatch z)) h1
  have h2 : Paired (fun (t : Addr) (row : Row) => H0 t = some (.tup row)) ts rows := Paired.mapP h2 fun _ _ z => b0 _ _ (ne_of z hp (fun z => nomatch z)) z
  have hlen : ((ts.map V.ref).length : Int) = (rows.length : Int) := by rw [List.length_map, hl]
  refine ⟨_, rfl, rl, _, rfl, .inl (SqL.of h1), ?_⟩
  rw [hlen]
  refine ⟨_, rfl, p, C, dx, _, _, _, rfl, hp0, T.cl, tM, (by rfl), _, _, rfl, rfl, _, rfl, ?_⟩
  refine ite2 (fun z => ?_) (fun _ => ?_)
  · have := of_decide_eq_true z
    omega
  refine ⟨_, rfl, rl, _, rfl, .inl (SqL.of h1), ?_⟩
  rw [hlen]
  refine ⟨rfl, _, rfl, ?_⟩
  refine ite2 (fun z => ?_) (fun _ => ?_)
  · have e9 : V.int ((rows.length : Nat) : Int) = V.int 0 := of_decide_eq_true z
    have e8 : (rows.length : Int) = 0 := by injection e9
    exact absurd (List.length_eq_zero_iff.mp (by omega)) hne
  refine ⟨_, rfl, rl, _, rfl, SqL.of h1, ?_⟩
  refine L2.for_it (L2.walk_enum (xs := ts.map V.ref)) (fun i σ H' => ∃ (x y : Option V), σ = [some (.ref p), some (.str (S al)), some (.ref rl), x, y] ∧ Same H0 H') ⟨none, none, rfl, Same.refl H0⟩ (fun _ _ _ _ ⟨_, _, _, s4⟩ => SqL.of (s4 _ _ h1)) ?_ ?_
  · rintro i x σ H1 H2 hi ⟨x1, y1, rfl, s1⟩ ⟨tq, vx, vy, rfl, htq, rfl, ex, ey⟩
    cases ex
    replace ey : (ts.map V.ref)[i]? = some vy := ey
    rw [List.getElem?_map] at ey
    cases htj : ts[i]? with
    | none => rw [htj] at ey; cases ey
    | some tj =>
      rw [htj] at ey
      cases ey
      obtain ⟨row, hrow, hat⟩ := L2.paired_get h2 htj
      have s2 := s1.trans (same_new htq (.tup [.int (i : Int), .ref tj]))
      refine ⟨tq, _, rfl, SqT.of upd_same, rfl, _, _, rfl, _, _, rfl, rfl, ?_⟩
      refine ⟨_, rfl, _, rfl, _, rfl, tj, i, al, row, rfl, s2 _ _ hat, hok i row hrow, hA.n3, fun H3 s3 => ?_⟩
      refine ⟨_, rfl, ?_⟩
      refine ite2 (fun z => (by cases z)) (fun _ => ?_)
      exact ⟨_, _, rfl, s2.trans s3⟩
  rintro σ H1 ⟨x1, y1, rfl, s1⟩
  have h1' := s1 _ _ h1
  have h2' : Paired (fun (t : Addr) (row : Row) => H1 t = some (.tup row)) ts rows := Paired.mapP h2 fun _ _ z => s1 _ _ z
  refine ⟨_, rfl, rl, rfl, ⟨_, SqL.of h1'⟩, fun L hL => ?_⟩
  refine L2.lc_it (L2.walk_list (xs := ts.map V.ref)) (fun i H' => Same H1 H' ∧ H' L = some (.lst ((ts.take i).map V.ref))) ⟨same_new hL _, upd_same⟩ (fun _ _ _ ⟨s4, _⟩ => SqL.of (s4 _ _ h1')) ?_ ?_
  · rintro i x H2 H3 hi ⟨s2, hL2⟩ ⟨rfl, hx⟩
    rw [List.getElem?_map] at hx
    cases htj : ts[i]? with
    | none => rw [htj] at hx; cases hx
    | some tj =>
      rw [htj] at hx
      cases hx
      obtain ⟨row, hrow, hat⟩ := L2.paired_get h2' htj
      refine ⟨rfl, _, rfl, tj, _, rfl, .inr ⟨SqT.of (s2 _ _ hat), _, hL2, small_lt (by rw [List.length_map, List.length_take]; omega), same_upd s2 hL, ?_⟩⟩
      rw [upd_same, List.take_add_one, htj, List.map_append]
      rfl
  rintro H2 ⟨s2, hL2⟩
  rw [List.length_map, List.take_length] at hL2
  refine ⟨L, _, rfl, .inl ⟨SqL.of hL2, fun rt hrt => ?_⟩⟩
  have s3 := s2.trans (same_new hrt (.tup (ts.map V.ref)))
  have s4 := s1.trans s3
  refine ⟨_, rfl, p, C, dx, _, rfl, s4 _ _ hp0, T.cl, T.nR, (by show 1 < 1000; decide), ?_⟩
  have nrt : rt ≠ p := fun e => by rw [e, s2 _ _ (s1 _ _ hp0)] at hrt; cases hrt
  refine q _ (b0.trans ((But.same0 s4).trans But.upd)) ⟨dx, rt, ts, ?_, ?_, ?_⟩
  · rw [upd_same]
    rfl
  · rw [upd_ne nrt, upd_same]
  · refine Paired.mapP h2 fun t row z => ?_
    rw [upd_ne (ne_of z hp0 (fun z => nomatch z))]
    exact s4 _ _ z
end
end W8

set_option Elab.async false
set_option linter.all false
set_option maxRecDepth 100000
set_option maxHeartbeats 4000000
namespace W8
open PySem PySem.Spec PyProof.Rows L2 L2E
/-- a class that is made by its __init__ -/
structure MkCal (P : Program) (w : World) (K : PySem.W.Frag) (mg : Str → Option Value) (base : Heap) (C : Addr) (k : Nat) (ps : List Str) (sp : Sp) : Prop where
  ex : ∃ (f : Addr) (fd : FuncData), FnOk P w K mg base CX0 k f fd ps sp ∧ Mk K C f ∧ Binds K fd ps []
abbrev sRead : Stmt := top 46
theorem scRead : FnScope ["text", "letters", "reader", "index", "char"] ["text", "letters"] (defScope sRead) := ⟨rfl, rfl, rfl, by decide +kernel, rfl, by decide +kernel, by decide +kernel⟩
def spRead (c : Nat → Addr) (CP : Addr) : Sp := fun vs H Q E => ∃ (tx al : List Nat) (r : RR), vs = [.str (S tx), .str (S al)] ∧ AlphOk al ∧ tx.length ≤ 1000 ∧ readP al tx = some r ∧
  (∀ rows, r = .rows rows → ∀ p H', Same H H' → H p = none → PatAt H' p CP al rows → Q (.ref p) H') ∧ (∀ i, r = .text i → ErrF E (c 11) "index" (.int (i : Int)) H) ∧ (r = .long → ErrF E (c 15) "limit" (.int 200) H)
theorem K4.same {p rl ol wl : Addr} {H0 H H' : Hp} (k : K4 p rl ol wl H H') (s : Same H0 H) (n1 : H0 p = none) (n2 : H0 rl = none) (n3 : H0 ol = none) (n4 : H0 wl = none) : Same H0 H' := fun b o e => by
  refine k b o (fun z => ?_) (fun z => ?_) (fun z => ?_) (fun z => ?_) (s b o e) <;> rw [z] at e
  · rw [n1] at e; cases e
  · rw [n2] at e; cases e
  · rw [n3] at e; cases e
  · rw [n4] at e; cases e
theorem combine_ready {s t : RS} (e : RS.combine s = some t) : t.ready = s.ready := by
  unfold RS.combine at e
  split at e
  · split at e
    · cases e; rfl
    · split at e
      · split at e
        · cases e; rfl
        · split at e <;> (cases e; rfl)
      · cases e
  · cases e
theorem down_ready {b : Nat} : ∀ {n : Nat} {s t : RS}, RS.down b n s = some t → t.ready = s.ready
  | 0, _, _, e => by cases e
  | n + 1, s, t, e => by
    unfold RS.down at e
    split at e
    · cases e; rfl
    · split at e
      · cases e
      · split at e
        · split at e
          · cases e
          · rename_i u hu
            exact (down_ready e).trans (combine_ready hu)
        · cases e; rfl
section
variable {P : Program} {w : World} {K : PySem.W.Frag} {mg : Str → Option Value} {base : Heap} {c : Nat → Addr} {fT fN fL : Addr}
theorem ok_read {f C D CP DP : Addr} {fd : FuncData} {t1 : Tok} (F : Fun K "read_pattern" "read_pattern" sRead f fd) (T : RdT K w mg C D) (X : BkE P K mg c fT fN fL) (TP : PtT K w mg CP DP) (gM : mg "MOST_TEXT" = some (.int 200 t1)) (ccheck_letters : Cal P w K mg base "check_letters" 1 ["letters"] spCheckL)
    (mr : MkCal P w K mg base C 1 ["self", "letters"] (spRInit C)) (mp : MkCal P w K mg base CP 2 ["self", "letters", "rows"] (spPInit CP)) (cd : MCal P w K mg base C "combine_down_to" 3 ["self", "binding"] (spDown C)) (ct : MCalX P w K mg base C "take" 6 ["self", "index", "char"] (spTake c C)) :
    FnOk P w K mg base (L2N.CX P w) 7 f fd ["text", "letters"] (spRead c CP) := by
  refine okN F scRead (fun vs H Q E h => ?_) (fun cdv A outer s H vs Q E hr h => ?_)
  · obtain ⟨tx, al, r, rfl, _⟩ := h
    rfl
  obtain ⟨tx, al, r, rfl, hA, htx, hrd, q, eT, eL⟩ := h
  obtain ⟨f1, fd1, F1, M1, b1⟩ := mr.ex
  obtain ⟨f2, fd2, F2, M2, b2⟩ := mp.ex
  obtain ⟨f3, fd3, F3, m3, b3⟩ := cd.ex
  obtain ⟨f4, fd4, F4, m4, b4⟩ := ct.ex
  refine ⟨_, (pss_cons (ps_expr (pcall ccheck_letters hr (pa_cons (pv 1) pa_nil)))
    (pss_cons (ps_if (pt_cmpR op_gt (pB1 call_len_str T.len (pv 0)) (pe_glob (v := .int 200) rfl gM ⟨_, rfl⟩) (nomark _))
      (pss_one (L2N.ps_raise rfl (L2N.takes_of rfl rfl rfl rfl) (L2N.pmk_xm X.l hr X.mL X.sup (pa_cons (pe_glob (v := .int 200) rfl gM ⟨_, rfl⟩) pa_nil))))
      pss_nil)
    (pss_cons (ps_set (i := 2) scRead.nd rfl (Or.inl rfl) (pe_make M1 F1 (hr.mono (by decide)) (by rfl) T.mgC b1 .nil pass0 (pa_cons (pv 1) pa_nil)))
    (pss_cons (ps_for PassesOwn.leaving rfl (pi_enumS (by rfl) TP.en (pa_cons (pv 0) pa_nil)) (pg_tup (by rfl) (pgs_cons (pg_name (i := 3) scRead.nd rfl (Or.inl rfl)) (pgs_cons (pg_name (i := 4) scRead.nd rfl (Or.inl rfl)) pgs_nil)))
      (pss_one (ps_expr (pe_meth (pv 2) T.cl m4 F4 hr b4 .nil (L2N.passes_call (L2N.takes_of rfl rfl rfl rfl) (fun _ _ _ _ h => h)) (pa_cons (pv 3) (pa_cons (pv 4) pa_nil))))))
    (pss_cons (ps_if (pt_not (pt_truth (pe_fld (pv 2) rfl) (by intro _; rfl)))
      (pss_one (L2N.ps_raise rfl (L2N.takes_of rfl rfl rfl rfl) (L2N.pmk_xm X.t hr X.mT X.sup (pa_cons (pB1 call_len_str T.len (pv 0)) pa_nil))))
      pss_nil)
    (pss_cons (ps_expr (pe_meth (pv 2) T.cl m3 F3 (hr.mono (by decide)) b3 .nil pass0 (pa_cons pe_int pa_nil)))
    (pss_cons (ps_if (pt_truth (pe_fld (pv 2) rfl) (by intro _; rfl))
      (pss_one (L2N.ps_raise rfl (L2N.takes_of rfl rfl rfl rfl) (L2N.pmk_xm X.t hr X.mT X.sup (pa_cons (pB1 call_len_str T.len (pv 0)) pa_nil))))
      pss_nil)
    (pss_one (ps_ret (pe_make M2 F2 (hr.mono (by decide)) (by rfl) TP.mgC b2 .nil pass0 (pa_cons (pv 1) (pa_cons (pe_fld (pv 2) rfl) pa_nil)))))))))))), ?_⟩
  unfold readP at hrd
  have h3 := hA.n3
  refine ⟨_, rfl, al, rfl, hA, _, rfl, _, rfl, by rw [S_len]; exact sz (by omega), _, _, rfl, rfl, _, rfl, ?_⟩
  rw [S_len]
  refine ite2 (fun e => ?_) (fun e => ?_)
  · have := of_decide_eq_true e
    rw [if_pos (by omega)] at hrd
    cases hrd
    exact ⟨_, rfl, fun d hd => (eL rfl).go (Same.refl H) hd⟩
  have h200 : tx.length ≤ 200 := by
    have : ¬ ((200 : Int) < (tx.length : Int)) := fun z => e (decide_eq_true z)
    omega
  rw [if_neg (by omega)] at hrd
  generalize hR : RS.readL al tx 0 RS.init = R at hrd
  refine ⟨_, rfl, fun p dx hp hdx hne => ?_⟩
  have sb : Same H (upd (upd H dx (.own p)) p (.ins C dx [])) := (same_new hdx (.own p)).trans (same_new (by rw [upd_ne (Ne.symm hne)]; exact hp) _)
  refine ⟨p, dx, al, rfl, upd_same, fun H1 rl ol wl bt G nrl nol nwl => ⟨rfl, ?_⟩⟩
  have nrl : H rl = none := sb.free nrl
  have nol : H ol = none := sb.free nol
  have nwl : H wl = none := sb.free nwl
  have s1 : Same H H1 := fun b o e => bt b o (fun z => by rw [z, hp] at e; cases e) (sb b o e)
  clear bt sb
  refine ⟨_, rfl, _, rfl, ?_⟩
  refine L2.for_it (walk_enumS (z := S tx)) (fun i σ H' => ∃ (x y : Option V) (s' : RS), σ = [some (.str (S tx)), some (.str (S al)), some (.ref p), x, y] ∧ Same H H' ∧ RdAt H' p dx rl ol wl C al s' ∧ RS.Good al s' ∧ RS.Ok s' (11 * i) ∧ RS.readL al (tx.drop i) i s' = R)
    ⟨none, none, RS.init, rfl, s1, G, RS.good_init, ⟨Nat.le_refl _, Nat.le_refl _⟩, hR⟩ (fun _ _ _ _ _ => trivial) ?_ ?_
  · rintro i x σ H2 H3 hi ⟨x1, y1, s', rfl, s2, G2, g2, o2, er⟩ ⟨t, ch, rfl, hT, rfl, hc⟩
    have hi' : i < tx.length := by
      have : (S tx).cps.size = tx.length := by show tx.toArray.size = _; simp
      omega
    have hc' : tx[i]? = some ch := by
      rw [← hc]
      show tx[i]? = tx.toArray[i]?
      simp
    have hdr : tx.drop i = ch :: tx.drop (i + 1) := by
      obtain ⟨h1, h2⟩ := List.getElem?_eq_some_iff.mp hc'
      rw [List.drop_eq_getElem_cons h1, h2]
    have s3 := same_new hT (.tup [.int (i : Int), .str ⟨#[ch]⟩])
    have G3 := G2.same s3
    rw [hdr] at er
    unfold RS.readL at er
    refine ⟨t, _, rfl, SqT.of upd_same, rfl, _, _, rfl, _, _, rfl, rfl, ?_⟩
    cases htk : RS.take al s' ch with
    | none =>
      rw [htk] at er
      rw [← er] at hrd
      cases hrd
    | some r2 =>
      rw [htk] at er
      refine ⟨_, rfl, p, dx, _, rfl, G3.o, rf_no _ _ _ _ _ (by decide +kernel), _, rfl, _, rfl, p, dx, rl, ol, wl, al, s', r2, 11 * i, i, ch, rfl, G3, o2, by omega, h3, htk, fun u hu H4 k4 G4 => ?_, fun hu => ?_⟩
      · subst hu
        have s4 := k4.same (s2.trans s3) hp nrl nol nwl
        refine ⟨_, _, u, rfl, s4, G4, RS.good_take g2 h3 htk, (RS.take_ok o2 htk).le (by omega), er⟩
      · subst hu
        rw [← er] at hrd
        cases hrd
        exact fun d H' k' n' e' => eT i rfl d H' (k'.same (s2.trans s3) hp nrl nol nwl) ((s2.trans s3).free n') e'
  rintro σ H2 ⟨x1, y1, s', rfl, s2, G2, g2, o2, er⟩
  have hsz : (S tx).cps.size = tx.length := by show tx.toArray.size = _; simp
  rw [hsz] at er o2
  rw [List.drop_length] at er
  rw [← er] at hrd
  unfold RS.readL at hrd
  replace hrd : (if s'.ready = false then some (RR.text tx.length) else match RS.down 1 (s'.wait.length + 1) s' with
      | none => none
      | some t => if t.wait = [] then some (.rows t.rows) else some (.text tx.length)) = some r := hrd
  refine ⟨_, rfl, p, C, dx, _, _, rfl, G2.o, T.cl, T.nB, rf_ready _ _ _ _ _, _, rfl, ?_⟩
  refine ite2 (fun h6 => ?_) (fun h6 => ?_)
  · have h6' : s'.ready = false := by
      cases hh : s'.ready with
      | false => rfl
      | true => rw [hh] at h6; cases h6
    rw [if_pos h6'] at hrd
    cases hrd
    refine ⟨_, rfl, _, rfl, by rw [S_len]; exact sz (by omega), _, rfl, fun d hd => ?_⟩
    rw [S_len]
    exact (eT _ rfl).go s2 hd
  have h6' : ¬ (s'.ready = false) := fun z => h6 (by rw [z]; rfl)
  rw [if_neg h6'] at hrd
  cases hdn : RS.down 1 (s'.wait.length + 1) s' with
  | none => rw [hdn] at hrd; cases hrd
  | some u =>
    rw [hdn] at hrd
    replace hrd : (if u.wait = [] then some (RR.rows u.rows) else some (.text tx.length)) = some r := hrd
    refine ⟨_, rfl, p, dx, _, rfl, G2.o, rf_no _ _ _ _ _ (by decide +kernel), p, dx, rl, ol, wl, al, s', u, 11 * tx.length, 1, rfl, G2, o2, by omega, hdn, fun H3 k3 G3 => ?_⟩
    have s3 := k3.same s2 hp nrl nol nwl
    have g3 := RS.good_down g2 hdn
    have o3 := RS.down_ok o2 hdn
    refine ⟨_, rfl, p, C, dx, _, _, rfl, G3.o, T.cl, T.nW, rf_waiting _ _ _ _ _, _, .inl ⟨_, SqL.of G3.w, rfl⟩, ?_⟩
    refine ite2 (fun h7 => ?_) (fun h7 => ?_)
    · have hne' : u.wait ≠ [] := fun z => by rw [z] at h7; cases h7
      rw [if_neg hne'] at hrd
      cases hrd
      refine ⟨_, rfl, _, rfl, by rw [S_len]; exact sz (by omega), _, rfl, fun d hd => ?_⟩
      rw [S_len]
      exact (eT _ rfl).go s3 hd
    · have he' : u.wait = [] := by
        cases hh : u.wait with
        | nil => rfl
        | cons x xs => rw [hh] at h7; exact absurd rfl h7
      rw [if_pos he'] at hrd
      cases hrd
      refine ⟨_, rfl, _, rfl, p, C, dx, _, _, rfl, G3.o, T.cl, T.nR, rf_rows _ _ _ _ _, fun x dx2 hx hdx2 hn2 => ?_⟩
      have s4 : Same H3 (upd (upd H3 dx2 (.own x)) x (.ins CP dx2 [])) := (same_new hdx2 (.own x)).trans (same_new (by rw [upd_ne (Ne.symm hn2)]; exact hx) _)
      refine ⟨x, dx2, rl, al, u.rows, rfl, upd_same, hA, G3.r.same s4, ?_, by have := o3.b; omega, g3.rows, fun H5 bt5 P5 => ⟨rfl, ?_⟩⟩
      · refine g3.rdy ?_
        rw [down_ready hdn]
        cases hh : s'.ready with
        | false => exact absurd hh h6'
        | true => rfl
      refine q _ rfl x H5 (fun b o e => ?_) (s3.free hx) P5
      have e3 := s3 b o e
      exact bt5 b o (fun z => by rw [z, hx] at e3; cases e3) (s4 b o e3)
end
end W8

set_option Elab.async false
set_option linter.all false
set_option maxRecDepth 100000
set_option maxHeartbeats 4000000
namespace W8
open PySem PySem.Spec PyProof.Rows L2 L2E
def digits : List Nat := (List.range 10).map (· + 48)
theorem digits_eq : ("0123456789" : Str) = S digits := by decide +kernel
structure NameOk (nm : List Nat) : Prop where
  n1 : 1 ≤ nm.length
  n12 : nm.length ≤ 12
  hd : ∀ c, nm[0]? = some c → c ∈ small
  all : ∀ c ∈ nm, c ∈ small ∨ c ∈ digits
abbrev sName : Stmt := top 52
theorem scName : FnScope ["name", "char"] ["name"] (defScope sName) := ⟨rfl, rfl, rfl, by decide +kernel, rfl, by decide +kernel, by decide +kernel⟩
def spName (c : Nat → Addr) : Sp := fun vs H Q E => ∃ nm : List Nat, vs = [.str (S nm)] ∧ nm.length ≤ 1000 ∧ (NameOk nm → Q (.str (S nm)) H) ∧ (¬ NameOk nm → ErrF E (c 12) "name" (.str (S nm)) H)
abbrev sRoomC : Stmt := top 54
theorem scRoomC : FnScope ["room", "least"] ["room", "least"] (defScope sRoomC) := ⟨rfl, rfl, rfl, by decide +kernel, rfl, by decide +kernel, by decide +kernel⟩
def spRoomC : Sp := fun vs H Q _ => ∃ (r l : Nat), vs = [.int (r : Int), .int (l : Int)] ∧ l ≤ r ∧ r ≤ 100 ∧ Q (.int (r : Int)) H
section
variable {P : Program} {w : World} {K : PySem.W.Frag} {mg : Str → Option Value} {base : Heap} {c : Nat → Addr} {fT fN fL : Addr}
theorem ok_roomC {f : Addr} {fd : FuncData} {t1 : Tok} (F : Fun K "check_room" "check_room" sRoomC f fd) (gM : mg "MOST_NAMES" = some (.int 100 t1)) : FnOk P w K mg base CX0 1 f fd ["room", "least"] spRoomC := by
  refine F.ok scRoomC (fun vs H Q E h => ?_) (fun cdv A outer s H vs Q E hr h => ?_)
  · obtain ⟨r, l, rfl, _⟩ := h
    rfl
  obtain ⟨r, l, rfl, h1, h2, q⟩ := h
  refine ⟨_, (pss_cons (ps_if (pt_not (pt_chain op_le op_le (pv 1) (pv 0) (pe_glob (v := .int 100) rfl gM ⟨_, rfl⟩)))
      (pss_one ps_never)
      pss_nil)
    (pss_one (ps_ret (pv 0)))), ?_⟩
  refine ⟨_, rfl, _, rfl, _, _, rfl, rfl, _, rfl, ?_⟩
  refine ite2 (fun _ => ?_) (fun z => absurd (decide_eq_true (by omega)) z)
  refine ⟨_, _, rfl, rfl, _, rfl, ?_⟩
  refine ite2 (fun z => ?_) (fun _ => ⟨_, rfl, q⟩)
  rw [decide_eq_true (show ((r : Int) ≤ 100) by omega)] at z
  cases z
theorem ok_name {f : Addr} {fd : FuncData} {t1 t2 t3 : Tok} (F : Fun K "check_name" "check_name" sName f fd) (X : BkE P K mg c fT fN fL) (tl : mg "len" = none) (gM : mg "MOST_NAME" = some (.int 12 t1)) (gS : mg "SMALL_books" = some (.str "abcdefghijklmnopqrstuvwxyz" t2)) (gD : mg "DIGITS" = some (.str "0123456789" t3)) :
    FnOk P w K mg base (L2N.CX P w) 3 f fd ["name"] (spName c) := by
  refine okN F scName (fun vs H Q E h => ?_) (fun cdv A outer s H vs Q E hr h => ?_)
  · obtain ⟨nm, rfl, _⟩ := h
    rfl
  obtain ⟨nm, rfl, hz, q, eN⟩ := h
  have go : ¬ NameOk nm → ∀ d, H d = none → E (.ref (c 12)) (some d) (upd H d (.xd [("name", .str (S nm))])) := fun n d hd => (eN n).go (Same.refl H) hd
  refine ⟨_, (pss_cons (ps_if (PW.pt (pw_or (pt_not (pt_chain op_le op_le pe_int (pB1 call_len_str tl (pv 0)) (pe_glob (v := .int 12) rfl gM ⟨_, rfl⟩))) (pw_or1 (pt_cmpR op_notIn_sign (pixS (pv 0) pe_int) (pe_glob (v := .str "abcdefghijklmnopqrstuvwxyz") rfl gS ⟨_, rfl⟩) rfl))))
      (pss_one (L2N.ps_raise rfl (L2N.takes_of rfl rfl rfl rfl) (L2N.pmk_xm X.n hr X.mN X.sup (pa_cons (pv 0) pa_nil))))
      pss_nil)
    (pss_cons (ps_for PassesOwn.leaving rfl (pi_str (pv 0)) (pg_name (i := 1) scName.nd rfl (Or.inl rfl))
      (pss_one (ps_if (PW.pt (pw_and (pt_cmpR op_notIn_sign (pv 1) (pe_glob (v := .str "abcdefghijklmnopqrstuvwxyz") rfl gS ⟨_, rfl⟩) rfl) (pw_and1 (pt_cmpR op_notIn_sign (pv 1) (pe_glob (v := .str "0123456789") rfl gD ⟨_, rfl⟩) rfl))))
        (pss_one (L2N.ps_raise rfl (L2N.takes_of rfl rfl rfl rfl) (L2N.pmk_xm X.n hr X.mN X.sup (pa_cons (pv 0) pa_nil))))
        pss_nil)))
    (pss_one (ps_ret (pv 0))))), ?_⟩
  refine ⟨_, rfl, _, rfl, by rw [S_len]; exact sz (by omega), _, _, rfl, rfl, _, rfl, ?_⟩
  rw [S_len]
  refine ite2 (fun h1 => ?_) (fun h1 => ?_)
  rotate_left
  · refine ⟨_, rfl, ite2 (fun _ => ?_) (fun z => absurd rfl z)⟩
    refine ite2 (fun _ => ?_) (fun z => absurd rfl z)
    exact ⟨_, rfl, _, rfl, fun d hd => go (fun n => h1 (decide_eq_true (by have := n.n1; omega))) d hd⟩
  have n1 : 1 ≤ nm.length := by have := of_decide_eq_true h1; omega
  refine ⟨_, _, rfl, rfl, _, rfl, ?_⟩
  refine ite2 (fun h2 => ?_) (fun h2 => ?_)
  · refine ite2 (fun _ => ?_) (fun z => absurd rfl z)
    exact ⟨_, rfl, _, rfl, fun d hd => go (fun n => decF h2 (by have := n.n12; omega)) d hd⟩
  have n12 : nm.length ≤ 12 := by have := decT h2; omega
  cases nm with
  | nil => cases n1
  | cons a r =>
    refine ⟨_, rfl, _, _, a, rfl, rfl, by rw [S_len]; exact sz (by omega), ?_, a, S small, rfl, by rw [small_eq], _, rfl, ?_⟩
    · show atI (a :: r) 0 = some a
      unfold atI ixN
      simp
    refine ite2 (fun h3 => ?_) (fun h3 => ?_)
    · exact ⟨_, rfl, _, rfl, fun d hd => go (fun n => decF h3 (n.hd a rfl)) d hd⟩
    have ha : a ∈ small := decT h3
    refine ⟨_, rfl, _, rfl, ?_⟩
    refine L2.for_it L2.walk_str (fun i σ H' => ∃ (x : Option V), σ = [some (.str (S (a :: r))), x] ∧ H' = H ∧ ∀ y ∈ (a :: r).take i, y ∈ small ∨ y ∈ digits) ⟨none, rfl, rfl, (fun y h => nomatch h)⟩ (fun _ _ _ _ _ => trivial) ?_ ?_
    · rintro i x σ H1 H2 hi ⟨z, rfl, rfl, hp⟩ ⟨rfl, ch, hc, rfl⟩
      have hc' : (a :: r)[i]? = some ch := by
        rw [← hc]
        show (a :: r)[i]? = (a :: r).toArray[i]?
        simp
      have hm := List.mem_of_getElem? hc'
      have nx : (ch ∈ small ∨ ch ∈ digits) → ∀ y ∈ (a :: r).take (i + 1), y ∈ small ∨ y ∈ digits := fun h y hy => by
        rw [List.take_add_one, hc'] at hy
        rcases List.mem_append.mp hy with g | g
        · exact hp y g
        · have : y = ch := by simpa using g
          rw [this]; exact h
      refine ⟨_, rfl, ch, S small, rfl, by rw [small_eq], _, rfl, ?_⟩
      refine ite2 (fun h4 => ?_) (fun h4 => ?_)
      · refine ⟨_, rfl, ch, S digits, rfl, by rw [digits_eq], _, rfl, ?_⟩
        refine ite2 (fun h5 => ?_) (fun h5 => ?_)
        · refine ⟨_, rfl, _, rfl, fun d hd => go (fun n => ?_) d hd⟩
          rcases n.all ch hm with g | g
          · exact decF h4 g
          · exact decF h5 g
        · exact ⟨_, rfl, rfl, nx (.inr (decT h5))⟩
      · refine ite2 (fun z => (by cases z)) (fun _ => ?_)
        exact ⟨_, rfl, rfl, nx (.inl (decT h4))⟩
    · rintro σ H1 ⟨z, rfl, rfl, hp⟩
      have e : (a :: r).take (S (a :: r)).cps.size = a :: r := List.take_of_length_le (by show (a :: r).length ≤ (a :: r).toArray.size; simp)
      rw [e] at hp
      exact ⟨_, rfl, q ⟨n1, n12, fun y hy => by cases hy; exact ha, hp⟩⟩
end
end W8

set_option Elab.async false
set_option linter.all false
set_option maxRecDepth 100000
set_option maxHeartbeats 4000000
/-! names and texts of a book, in plain Lean -/
namespace W8
open PySem PySem.Spec PyProof.Rows L2 L2E
abbrev Ent := List Nat × List Nat
def kN (n : List Nat) : Key := .inr (S n)
theorem kN_inj {a b : List Nat} : kN a = kN b ↔ a = b := ⟨fun h => S_inj (by injection h), fun h => by rw [h]⟩
def tkv (es : List Ent) : List (Key × V) := es.map fun e => (kN e.1, V.str (S e.2))
def toldE (es : List Ent) (n : List Nat) : Option (List Nat) := (es.find? fun e => decide (e.1 = n)).map (·.2)
def putE (es : List Ent) (n t : List Nat) : List Ent := if (es.any fun e => decide (e.1 = n)) = true then es.map (fun e => if e.1 = n then (e.1, t) else e) else es ++ [(n, t)]
def dropE (es : List Ent) (n : List Nat) : List Ent := es.filter fun e => decide (e.1 ≠ n)
theorem dec_kN (a b : List Nat) : decide (kN a = kN b) = decide (a = b) := by
  by_cases h : a = b
  · rw [decide_eq_true h, decide_eq_true (kN_inj.mpr h)]
  · rw [decide_eq_false h, decide_eq_false (fun z => h (kN_inj.mp z))]
theorem told_nil (n : List Nat) : toldE [] n = none := rfl
theorem told_cons (e : Ent) (es : List Ent) (n : List Nat) : toldE (e :: es) n = if e.1 = n then some e.2 else toldE es n := by
  unfold toldE
  rw [List.find?_cons]
  by_cases h : e.1 = n
  · rw [decide_eq_true h, if_pos h]; rfl
  · rw [decide_eq_false h, if_neg h]
theorem told_any (es : List Ent) (n : List Nat) : (es.any fun e => decide (e.1 = n)) = (toldE es n).isSome := by
  induction es with
  | nil => rfl
  | cons e es ih =>
    rw [List.any_cons, told_cons, ih]
    by_cases h : e.1 = n
    · rw [decide_eq_true h, if_pos h]; rfl
    · rw [decide_eq_false h, if_neg h]; rfl
theorem valV_tkv (es : List Ent) (n : List Nat) : valV (tkv es) (kN n) = (toldE es n).map fun t => V.str (S t) := by
  induction es with
  | nil => rfl
  | cons e es ih =>
    show valV ((kN e.1, V.str (S e.2)) :: tkv es) (kN n) = _
    rw [told_cons]
    by_cases h : e.1 = n
    · rw [valV_pos (kN_inj.mpr h), if_pos h]; rfl
    · rw [valV_neg (fun z => h (kN_inj.mp z)), if_neg h, ih]
theorem tkv_any (es : List Ent) (n : List Nat) : ((tkv es).any fun kv => decide (kv.1 = kN n)) = es.any fun e => decide (e.1 = n) := by
  unfold tkv
  rw [List.any_map]
  exact congrArg (fun f => es.any f) (funext fun e => dec_kN e.1 n)
theorem tkv_put (es : List Ent) (n t : List Nat) : putK (tkv es) (kN n) (V.str (S t)) = tkv (putE es n t) := by
  unfold putK putE
  rw [tkv_any]
  split
  · unfold tkv
    rw [List.map_map, List.map_map]
    refine List.map_congr_left fun e _ => ?_
    show (if kN e.1 = kN n then _ else _) = _
    by_cases h : e.1 = n
    · rw [if_pos (kN_inj.mpr h)]
      show _ = (kN (if e.1 = n then (e.1, t) else e).1, V.str (S (if e.1 = n then (e.1, t) else e).2))
      rw [if_pos h]
    · rw [if_neg (fun z => h (kN_inj.mp z))]
      show _ = (kN (if e.1 = n then (e.1, t) else e).1, V.str (S (if e.1 = n then (e.1, t) else e).2))
      rw [if_neg h]
  · unfold tkv
    rw [List.map_append]
    rfl
theorem tkv_drop (es : List Ent) (n : List Nat) : dropK (tkv es) (kN n) = tkv (dropE es n) := by
  unfold dropK dropE tkv
  rw [List.filter_map]
  refine congrArg _ (congrArg (fun f => es.filter f) (funext fun e => ?_))
  show decide (kN e.1 ≠ kN n) = decide (e.1 ≠ n)
  by_cases h : e.1 = n
  · have g : kN e.1 = kN n := kN_inj.mpr h
    simp [h, g]
  · have g : ¬ kN e.1 = kN n := fun z => h (kN_inj.mp z)
    simp [h, g]
/-- another table with the same names -/
theorem any_R {R : Key × V → Ent → Prop} (hR : ∀ kv e, R kv e → kv.1 = kN e.1) (n : List Nat) : ∀ {kvs : List (Key × V)} {es : List Ent}, Paired R kvs es → (kvs.any fun kv => decide (kv.1 = kN n)) = es.any fun e => decide (e.1 = n)
  | _, _, .nil => rfl
  | kv :: kvs, e :: es, .cons a b => by
    rw [List.any_cons, List.any_cons, any_R hR n b, hR kv e a, dec_kN]
def updK (k : Key) (v : V) (kv : Key × V) : Key × V := if kv.1 = k then (kv.1, v) else kv
def updE (n t : List Nat) (e : Ent) : Ent := if e.1 = n then (e.1, t) else e
theorem map_R {R : Key × V → Ent → Prop} (hR : ∀ kv e, R kv e → kv.1 = kN e.1) {n t : List Nat} {v : V} (h : R (kN n, v) (n, t)) : ∀ {kvs : List (Key × V)} {es : List Ent}, Paired R kvs es → Paired R (kvs.map (updK (kN n) v)) (es.map (updE n t))
  | _, _, .nil => .nil
  | kv :: kvs, e :: es, .cons a b => by
    refine Paired.cons ?_ (map_R hR h b)
    have e1 := hR kv e a
    unfold updK updE
    by_cases g : e.1 = n
    · rw [if_pos (by rw [e1, g]), if_pos g, e1, g]
      exact h
    · rw [if_neg (by rw [e1]; exact fun z => g (kN_inj.mp z)), if_neg g]
      exact a
theorem put_R {R : Key × V → Ent → Prop} (hR : ∀ kv e, R kv e → kv.1 = kN e.1) {n t : List Nat} {v : V} (h : R (kN n, v) (n, t)) {kvs : List (Key × V)} {es : List Ent} (p : Paired R kvs es) : Paired R (putK kvs (kN n) v) (putE es n t) := by
  unfold putK putE
  rw [any_R hR n p]
  split
  · exact map_R hR h p
  · exact paired_snoc p h
theorem drop_R {R : Key × V → Ent → Prop} (hR : ∀ kv e, R kv e → kv.1 = kN e.1) (n : List Nat) : ∀ {kvs : List (Key × V)} {es : List Ent}, Paired R kvs es → Paired R (dropK kvs (kN n)) (dropE es n)
  | _, _, .nil => .nil
  | kv :: kvs, e :: es, .cons a b => by
    have e1 := hR kv e a
    unfold dropK dropE
    rw [List.filter_cons, List.filter_cons]
    by_cases g : e.1 = n
    · rw [if_neg (by rw [e1, g]; simp), if_neg (by simp [g])]
      exact drop_R hR n b
    · have g2 : kv.1 ≠ kN n := by rw [e1]; exact fun z => g (kN_inj.mp z)
      rw [if_pos (by simp [g2]), if_pos (by simp [g])]
      exact .cons a (drop_R hR n b)
theorem valV_R {R : Key × V → Ent → Prop} (hR : ∀ kv e, R kv e → kv.1 = kN e.1) (n : List Nat) : ∀ {kvs : List (Key × V)} {es : List Ent}, Paired R kvs es → (valV kvs (kN n)).isSome = (toldE es n).isSome := fun {kvs es} p => by
  rw [← valV_any, ← told_any, any_R hR n p]
theorem told_mem {es : List Ent} {n t : List Nat} (h : toldE es n = some t) : (n, t) ∈ es := by
  unfold toldE at h
  obtain ⟨e, he, rfl⟩ := Option.map_eq_some_iff.mp h
  have h1 := List.mem_of_find?_eq_some he
  have h2 : decide (e.1 = n) = true := List.find?_some (p := fun e : Ent => decide (e.1 = n)) he
  rw [← of_decide_eq_true h2]
  exact h1
theorem put_len {es : List Ent} {n t : List Nat} : (putE es n t).length = if (toldE es n).isSome = true then es.length else es.length + 1 := by
  unfold putE
  rw [told_any]
  split
  · rw [List.length_map]
  · rw [List.length_append]; rfl
theorem put_mem {es : List Ent} {n t : List Nat} {e : Ent} (h : e ∈ putE es n t) : e ∈ es ∨ e = (n, t) := by
  unfold putE at h
  split at h
  · obtain ⟨d, hd, rfl⟩ := List.mem_map.mp h
    by_cases g : d.1 = n
    · rw [if_pos g]; exact .inr (by rw [g])
    · rw [if_neg g]; exact .inl hd
  · rcases List.mem_append.mp h with g | g
    · exact .inl g
    · exact .inr (List.mem_singleton.mp g)
end W8

set_option Elab.async false
set_option linter.all false
set_option maxRecDepth 100000
set_option maxHeartbeats 4000000
/-! list(o): o's __iter__ gives iter(o.f), f a dict, and o has its own __len__ -/
namespace L2
open PySem PySem.Spec PyProof.Rows
def spLenD (C : Addr) : Sp := fun vs H Q _ => ∃ (a dx : Addr) (fs : List (Str × V)) (n : Nat), vs = [.ref a] ∧ H a = some (.ins C dx fs) ∧ n ≤ sizeLine ∧ Q (.int (n : Int)) H
section
variable {X : Cx} {pins : List (Addr × Obj)} {σ : St} {H : Hp} {s : Shared} {CX : CXT} {k : Nat} {C f a dx : Addr} {fs : List (Str × V)} {fd : FuncData} {E : XK} {sp : Sp}
theorem len_own_at {A : Around} {Ex : Value → Shared → Prop} (sb : Sub X (k + 1) A) (F : FnOk X.prog X.w X.K X.mg X.base CX0 k f fd ["self"] sp) (hm : Meth X.K C "__len__" f) (hb : Binds X.K fd ["self"] [])
    (I : Inv X pins σ H s) (ha : H a = some (.ins C dx fs)) (hsp : sp [.ref a] H (fun v H' => ∃ n : Nat, v = .int (n : Int) ∧ n ≤ sizeLine ∧ H' = H) E0) :
    wpAny (model X.prog X.w) A (call (.builtin "len") [.ref a]) (fun v s' => ∃ (n : Nat) (t : Tok), v = .int (n : Int) t ∧ n ≤ sizeLine ∧ Inv X pins σ H s') Ex s := by
  obtain ⟨mA, J, _⟩ := ins_get I.hok ha
  obtain ⟨od, J, _⟩ := J.look
  refine Calls.call_function_entry kind_len plain_len entry_len (args_len1 _) ?_
  unfold Builtin.«len»
  refine wpAny_bind (m := oneArg "len" _) (wpAny_pure ?_)
  have e0 : Env0 X.prog X.w X.K X.mg X.base A.in1 X.stack s H := by
    have e := I.env0
    exact ⟨by rw [(sb.in1).fr]; exact e.frames, e.mod, e.bs, e.bsz, e.funs, e.frf, e.hok, e.bare⟩
  have hl := F.len _ _ _ _ hsp
  have body : wpAny (model X.prog X.w) A.in1 (call (.ref f) [.ref a]) (fun v s' => ∃ n : Nat, (∃ t, v = .int (n : Int) t) ∧ n ≤ sizeLine ∧ Inv X pins σ H s') Ex s := by
    refine wpAny_call (codeAny_mono (F.run A.in1 X.stack s H ⟨[.ref a], []⟩ [.ref a] [.ref a] _ E0 sb.in1.room e0 (by
      have := hb s [.ref a] I.kIn (by simpa using hl)
      simpa using this) (.cons rfl .nil) hsp) fun r s' hq => ?_)
    cases r with
    | error e => exact False.elim hq
    | ok fl =>
      cases fl with
      | ret w =>
        obtain ⟨z, H', I', rz, n, ez, hn, eH⟩ := I.after hq
        subst ez
        subst eH
        exact ⟨n, rz, hn, I'⟩
      | next => exact False.elim hq
      | brk => exact False.elim hq
      | cont => exact False.elim hq
  have special : ∀ {Q' : Option Value → Shared → Prop}, wpAny (model X.prog X.w) A.in1 (call (.ref f) [.ref a]) (fun v s' => Q' (some v) s') Ex s → wpAny (model X.prog X.w) A.in1 (callSpecial? (.ref a) (Str.ofString "__len__")) Q' Ex s := fun q => PySem.W.special_fn I.kIn J hm.at_ (beq_iff_eq.mp hm.fn) q
  refine wpAny_bind (m := callSpecial? (.ref a) (Str.ofString "__len__")) (special (wpAny_mono body (fun v s' hv => ?_) fun _ _ z => z))
  obtain ⟨n, ⟨t, rfl⟩, hn, I'⟩ := hv
  have hn' := hn
  rw [sizeLine_eq] at hn
  refine wpAny_bind (wpAny_holding (wpAny_pure ?_))
  refine wpAny_bind (wpAny_letGo ?_)
  show wpAny _ _ (if ((n : Nat) : Int) < 0 then _ else _) _ _ _
  rw [if_neg (by omega)]
  show wpAny _ _ (if ((n : Nat) : Int) ≥ 2 ^ 63 then _ else _) _ _ _
  rw [if_neg (by omega)]
  exact wpAny_bind (wpAny_mkInt (wpAny_pure ⟨_, rfl, n, _, rfl, hn', I'.tok _⟩))
theorem hint_own {A : Around} {Q : Bool → Shared → Prop} (sb : Sub X (k + 1) A) (F : FnOk X.prog X.w X.K X.mg X.base CX0 k f fd ["self"] sp) (hm : Meth X.K C "__len__" f) (hb : Binds X.K fd ["self"] [])
    (I : Inv X pins σ H s) (ha : H a = some (.ins C dx fs)) (hsp : sp [.ref a] H (fun v H' => ∃ n : Nat, v = .int (n : Int) ∧ n ≤ sizeLine ∧ H' = H) E0) (q : ∀ b s', Inv X pins σ H s' → Q b s') :
    wpAny (model X.prog X.w) A (Builtin.List.listLengthHint (.ref a)) Q X.xe s := by
  obtain ⟨mA, J, _⟩ := ins_get I.hok ha
  obtain ⟨od, J, _⟩ := J.look
  unfold Builtin.List.listLengthHint
  refine wpAny_bind (wpAny_bind (J.type.here ((PySem.W.looks_findIn I.kIn hm.at_).here ?_)))
  refine PySem.W.KFB.if_not rfl ?_
  simp only [Option.isSome_some, if_true]
  refine wpAny_bind (wpAny_rule ?_)
  refine wpAny_bind (wpAny_attempt (wpAny_mono (len_own_at (Ex := fun _ _ => False) sb F hm hb (I.tok _) ha hsp) (fun v s' ⟨n, t, ev, hn, I'⟩ => ?_) fun e s' z => False.elim z))
  subst ev
  refine wpAny_bind (m := asInt? (.int (n : Int) t)) (wpAny_pure ?_)
  have hl : Builtin.List.listTooLong ((n : Int)).toNat = false := by
    unfold Builtin.List.listTooLong
    rw [Int.toNat_natCast]
    exact decide_eq_false (by omega)
  show wpAny _ _ (if Builtin.List.listTooLong ((n : Int)).toNat = true then _ else _) _ _ _
  rw [if_neg (by rw [hl]; exact Bool.false_ne_true)]
  exact wpAny_pure (q _ _ I')
/-- the list at S is written anew, the iterator at it has turned -/
theorem Inv.relist {h' : Heap} {S it : Addr} {xs ys : List V} {us : List Value} {c : Nat} {t' : Nat} (I : Inv X pins σ H s) (hS : H S = some (.lst xs)) (fi : FpOk X pins H it)
    (k : ∀ b o, b ≠ S → b ≠ it → s.heap.get? b = some o → h'.get? b = some o) (e : h'.get? S = some { cls := .type "list", data := .seq us.toArray c }) (hv : Vals ys us) (hz : ys.length ≤ sizeLine) :
    Inv X pins σ (upd H S (.lst ys)) { s with heap := h', toks := t' } := by
  obtain ⟨hn, hL, _, h1, h2, h3⟩ := fi
  have nS : ∀ {b : Addr} {u : HO}, H b = some u → (∀ zs, u ≠ .lst zs) → b ≠ S := fun q z w => by
    rw [w, hS] at q
    exact z xs (Option.some.inj q).symm
  have nS0 : ∀ {b : Addr}, H b = none → b ≠ S := fun q w => by rw [w, hS] at q; cases q
  have nit : ∀ {b : Addr} {u : HO}, H b = some u → b ≠ it := fun q z => by rw [z, hn] at q; cases q
  refine I.step (g' := s.gens) (d' := s.drawn) (ch := [it]) (fun b hb => ?_) (fun b o _ _ hc q n => k b o (nS0 n) (fun z => hc (by simp [z])) q) (fun b o _ _ hc q n => ⟨o.slots, k b o (nS0 n) (fun z => hc (by simp [z])) q⟩) (fun b _ _ _ n => by rw [upd_ne (nS0 n)]; exact n)
    (fun b o hc q => ?_) (fun b _ q => by rw [upd_ne (nS q (fun _ z => nomatch z))]; exact q) (fun b _ _ q => by rw [upd_ne (nS q (fun _ z => nomatch z))]; exact q) (fun b ps q => ⟨#[], by rw [upd_ne (nS q (fun _ z => nomatch z)), q]; simp⟩) (fun m hm => ?_) (fun b u q => ?_) I.bare
  · have e : b = it := by simpa using hb
    subst e
    exact ⟨h1, hL, h2, h3⟩
  · by_cases hb : b = S
    · exact ⟨_, by rw [hb]; exact e⟩
    · exact ⟨o, k b o hb (fun z => hc (by simp [z])) q⟩
  · obtain ⟨o, es, ep, ho, r⟩ := hm
    exact ⟨o, es, ep, k _ o (nS0 I.free) (Ne.symm hL) ho, r⟩
  · by_cases hb : b = S
    · subst hb
      rw [upd_same] at q
      cases q
      exact ⟨hz, us, c, hv, e⟩
    · rw [upd_ne hb] at q
      refine (I.hok b u q).stay (fun c v hc q2 => k c v ?_ ?_ q2) (fun c q2 => ?_) fun c zs q2 => ?_
      · rcases hc with z | z
        · rw [z]; exact hb
        · exact nS z (fun _ w => nomatch w)
      · rcases hc with z | z
        · rw [z]; exact nit q
        · exact nit z
      · rw [upd_ne (nS q2 (fun _ w => nomatch w))]; exact q2
      · rw [upd_ne (nS q2 (fun _ w => nomatch w))]; exact q2
variable {fI fL : Addr} {fdI fdL : FuncData} {fl : Str} {spL : Sp}
theorem ownD_extend {A1 : Around} {Rs : Result → Shared → Prop} {d S : Addr} {o : Obj} {kvs : List (Key × V)} (hc : X.calm = true) (hh1 : A1.in1.handled = X.A.handled) (sb : Sub X (k + 1) A1.in1)
    (FI : FnAt X.prog X.w X.K X.mg X.base CX0 k fI fdI ["self"] (spIterD C fl)) (hmI : Meth X.K C "__iter__" fI) (bI : Binds X.K fdI ["self"] [])
    (FL : FnOk X.prog X.w X.K X.mg X.base CX0 k fL fdL ["self"] spL) (hmL : Meth X.K C "__len__" fL) (bL : Binds X.K fdL ["self"] [])
    (I : Inv X pins σ H s) (ha : H a = some (.ins C dx fs)) (hf : fs.lookup fl = some (.ref d)) (hd : H d = some (.frz o (.dK kvs))) (hS : H S = some (.lst [])) (hz : kvs.length ≤ sizeLine)
    (hsp : ∀ H', (∀ b u, H b = some u → H' b = some u) → spL [.ref a] H' (fun v H'' => ∃ n : Nat, v = .int (n : Int) ∧ n ≤ sizeLine ∧ H'' = H') E0)
    (hdone : ∀ s', Inv X pins σ (upd H S (.lst (kvs.map fun kv => kV kv.1))) s' → Rs (.ok (.ret .none)) s') (herr : ∀ e s, X.xe e s → Rs (.error e) s) :
    wpAny (model X.prog X.w) A1.in1 (Builtin.List.listExtendWith (.ref S) (.ref a) .none)
      (fun fin s' => match fin with | .done f => Rs (.ok f) s' | .again c' => c'.quiet = true ∧ codeAny (model X.prog X.w) A1 c' Rs s') (fun e s' => Rs (.error e) s') s := by
  have hne : S ≠ a := ne_of hS ha (fun z => nomatch z)
  obtain ⟨mA, J, _⟩ := ins_get I.hok ha
  obtain ⟨od, J, _⟩ := J.look
  unfold Builtin.List.listExtendWith
  refine wpAny_bind (J.type.here ?_)
  have h1 : Builtin.List.listSameRef (.ref S) (.ref a) = false := by simp [Builtin.List.listSameRef, hne]
  have h2 : (Value.ref C == Value.type "list") = false := rfl
  have h3 : (Value.ref C == Value.type "tuple") = false := rfl
  simp only [h1, h2, h3, Bool.or_false, Bool.false_eq_true, if_false]
  refine wpAny_bind (wpAny_mono (iter_own (A := A1.in1) sb.fr (sb.room.mono (Nat.le_succ _)) FI hmI bI I ha hf hd (Q := fun v s' => ∃ it, v = .ref it ∧ s.heap.objs.size ≤ it ∧ H it = none ∧ Inv X pins σ (upd H it (KitO d it o)) s') fun it s1 hn I1 hi => ⟨it, rfl, hn, hi, I1⟩) (fun v s1 hv => ?_) herr)
  obtain ⟨it, rfl, hn, hi, I1⟩ := hv
  have same : ∀ b u, H b = some u → upd H it (KitO d it o) b = some u := fun b u e => by rw [upd_ne (fun z => by rw [z, hi] at e; cases e)]; exact e
  refine wpAny_bind (wpAny_holding (wpAny_mono (hint_own (Q := fun b s' => Inv X pins σ (upd H it (KitO d it o)) s') sb FL hmL bL I1 (same _ _ ha) (hsp _ same) fun b s' I' => I') (fun b s2 I2 => ?_) herr))
  have loop : ∀ s3, Inv X pins σ (upd H it (KitO d it o)) s3 → codeAny (model X.prog X.w) A1 (.builtin "list.extend.loop" ⟨[.ref S, .ref it, .none], []⟩) Rs s3 := by
    intro s3 I3
    obtain ⟨es, ep, hdt, hg⟩ : ∃ es ep, o.data = .dict es ep ∧ s3.heap.get? it = some (kitObj d es.size ep) := (I3.hok it _ upd_same).1
    obtain ⟨hs, hgd, hx, es2, ep2, vs, hdt2, hsz, kv, hm⟩ := I3.frzK (same _ _ hd)
    obtain ⟨rfl, rfl⟩ := dict_ep hdt hdt2
    obtain ⟨z, its, c, r3, hl3, e3⟩ := I3.lstM (same _ _ hS)
    cases r3
    have hl : kvs.length = vs.length := Paired.length kv
    have nSi : S ≠ it := fun z => by rw [z, hi] at hS; cases hS
    have nSd : S ≠ d := fun z => by rw [z, hd] at hS; cases hS
    have ndi : d ≠ it := fun z => by rw [z, hi] at hd; cases hd
    have hh : A1.in1.handled = none := hh1.trans (I3.ok.hd hc)
    have W := Walks.dictKeys (prog := X.prog) (w := X.w) (knd := mixKind X.prog X.w) hh it d ndi vs ep2
    have I4 : Inv X pins σ H s3 := by
      have := ItX.inv_drop I3 (a := it) upd_same
      rw [ItX.dropH_upd hi] at this
      exact this
    have fp : FpOk X pins H it := by
      have := ItX.inv_fp I3 (a := it) upd_same (Nat.le_trans I.sz hn)
      rw [ItX.dropH_upd hi] at this
      exact this
    refine codeAny_extend_loopS W.toS (by rw [← hl]; exact hz) S (by simp only [List.mem_cons, List.not_mem_nil, or_false, not_or]; exact ⟨nSi, nSd⟩) .none vs.length 0 s3 #[] c rfl (Nat.zero_le _) ⟨⟨_, hg, rfl, by rw [hsz, hl]; rfl⟩, hm⟩ e3 (ItemsOf.nil _) fun s' acc' c' hmv hS' hacc => ?_
    rw [Moved.eq_with hmv]
    refine hdone _ (Inv.relist (us := acc'.toList) (c := c') I4 hS fp (fun b o h1 h2 e => hmv.heap b o (by simp only [List.mem_cons, List.not_mem_nil, or_false, not_or]; exact ⟨h1, h2⟩) e) (by rw [Array.toArray_toList]; exact hS') ?_ (by rw [List.length_map]; exact hz))
    have el : acc'.toList.length = acc'.size := by simp
    refine vals_of_at (by rw [List.length_map, el, hacc.1, hl]) fun j x w h1 h2 => ?_
    obtain ⟨k, y, hky, hi⟩ := hacc.2 j w (by rw [← Array.getElem?_toList]; exact h2)
    have e1 : (kvs.map (·.1))[j]? = some k := by
      rw [KV.keys kv, List.getElem?_map, hky] <;> rfl
    have e2 : (kvs.map fun kv => kV kv.1)[j]? = some (kV k) := by
      have e3 : (kvs.map fun kv => kV kv.1) = (kvs.map (·.1)).map kV := by rw [List.map_map] <;> rfl
      rw [e3, List.getElem?_map, e1] <;> rfl
    rw [e2] at h1
    cases h1
    exact keyIs_rel hi
  obtain ⟨z, its, c, r3, hl3, e3⟩ := I2.lstM (same _ _ hS)
  cases r3
  refine wpAny_ite_split (fun _ => ?_) (fun _ => wpAny_pure ⟨plainId_quiet PySem.F.plain_extend_loop _, loop s2 I2⟩)
  refine wpAny_bind (wpAny_rule ?_)
  refine wpAny_bind ?_
  show wpAny _ _ (updateSeq S (·.push .none) >>= fun _ => updateSeq S (·.pop)) _ _ _
  refine wpAny_bind (wpAny_updateSeq e3 rfl ?_)
  have I3 := I2.lset (f := (·.push Value.none)) (its' := [Value.none]) (ys := [.non]) (t' := s2.toks) (same _ _ hS) e3 (by simp) (.cons rfl .nil) (by rw [List.length_singleton, sizeLine_eq]; decide)
  obtain ⟨z4, its4, k4, r4, hl4, e4⟩ := I3.lstM upd_same
  obtain ⟨u4, rfl, ru4⟩ := r4.one
  refine wpAny_updateSeq e4 rfl ?_ (by show 1 ≤ sizeLine; rw [sizeLine_eq]; decide) (by show 0 ≤ sizeLine + 1; exact Nat.zero_le _)
  have I4 := I3.lset (f := (·.pop)) (its := [u4]) (its' := []) (ys := []) (t' := s2.toks) upd_same e4 (by rfl) .nil (Nat.zero_le _)
  rw [upd_upd] at I4
  have hH : upd (upd H it (KitO d it o)) S (.lst []) = upd H it (KitO d it o) := by
    funext b
    by_cases hb : b = S
    · rw [hb, upd_same, same _ _ hS]
    · rw [upd_ne hb]
  rw [hH] at I4
  exact wpAny_pure ⟨plainId_quiet PySem.F.plain_extend_loop _, loop _ I4⟩
/-- list(o) -/
def rListOwn (C : Addr) (fl : Str) (spL : Sp) : List V → Hp → VK → Prop := fun xs H Q => ∃ (a dx : Addr) (fs : List (Str × V)) (d : Addr) (o : Obj) (kvs : List (Key × V)), xs = [.ref a] ∧ H a = some (.ins C dx fs) ∧ fs.lookup fl = some (.ref d) ∧ H d = some (.frz o (.dK kvs)) ∧ kvs.length ≤ sizeLine ∧
  (∀ H', (∀ b u, H b = some u → H' b = some u) → spL [.ref a] H' (fun v H'' => ∃ n : Nat, v = .int (n : Int) ∧ n ≤ sizeLine ∧ H'' = H') E0) ∧ ∀ q, H q = none → Q (.ref q) (upd H q (.lst (kvs.map fun kv => kV kv.1)))
theorem call_listOwnD (hc : X.calm = true) (FI : FnAt X.prog X.w X.K X.mg X.base CX0 k fI fdI ["self"] (spIterD C fl)) (hmI : Meth X.K C "__iter__" fI) (bI : Binds X.K fdI ["self"] [])
    (FL : FnOk X.prog X.w X.K X.mg X.base CX0 k fL fdL ["self"] spL) (hmL : Meth X.K C "__len__" fL) (bL : Binds X.K fdL ["self"] []) (hr : Room (k + 3) X.A) : CallR X (.type "list") (rListOwn C fl spL) := by
  intro pins s σ H xs us Q I rv h
  obtain ⟨a, dx, fs, d, o, kvs, rfl, ha, hf, hd, hz, hsp, hq⟩ := h
  obtain ⟨u, rfl, ru⟩ := rv.one
  cases ru
  have sb : Sub X (k + 1) X.A.in1.in1 := (Sub.in1 (Sub.in1 (⟨hr, rfl⟩ : Sub X (k + 3) X.A)))
  refine callType_codes (Q₁ := fun obj s₁ => obj = .ref s.heap.objs.size ∧ s₁ = { s with heap := s.heap.push { cls := .type "list", data := .seq #[] } }) PySem.F.called_list (PySem.F.typeCall_list_1 _) PySem.F.entry_list_init
    (code_list_new _ ⟨rfl, rfl⟩) fun obj s₁ h₁ => ?_
  obtain ⟨rfl, rfl⟩ := h₁
  have hS : (s.heap.push { cls := .type "list", data := .seq #[] }).get? s.heap.objs.size = some { cls := .type "list", data := .seq #[] } := Heap.get?_push_size _ rfl
  refine ⟨⟨_, hS, rfl⟩, PySem.F.args_list_init_2 _ _, ?_⟩
  have fr : H s.heap.objs.size = none := I.hok.fresh (Nat.le_refl _)
  have keep : ∀ b u, H b = some u → upd H s.heap.objs.size (.lst []) b = some u := fun b u e => by rw [upd_ne (ne_of_none e fr)]; exact e
  have I1 : Inv X pins σ (upd H s.heap.objs.size (.lst [])) { s with heap := s.heap.push { cls := .type "list", data := .seq #[] } } := I.lnew (its := []) (t' := s.toks) .nil (Nat.zero_le _)
  show wpAny _ _ (do let old ← Builtin.List.listItems (.ref s.heap.objs.size); Builtin.List.listUpdate (.ref s.heap.objs.size) (fun _ => #[]); letGo old.toList.reverse; Builtin.List.listExtendWith (.ref s.heap.objs.size) (.ref a) .none) _ _ _
  refine wpAny_bind ?_
  unfold Builtin.List.listItems
  refine wpAny_bind (wpAny_seqItems hS rfl (wpAny_pure ?_))
  show wpAny _ _ (updateSeq s.heap.objs.size (fun _ => #[]) >>= fun _ => letGo (#[] : Array Value).toList.reverse >>= fun _ => Builtin.List.listExtendWith (.ref s.heap.objs.size) (.ref a) .none) _ _ _
  refine wpAny_bind (wpAny_updateSeq hS rfl ?_)
  have I2 := I1.lset (f := fun _ => #[]) (its := []) (its' := []) (ys := []) (t' := s.toks) upd_same hS rfl .nil (Nat.zero_le _)
  rw [upd_upd] at I2
  refine wpAny_bind (wpAny_letGo ?_)
  refine ownD_extend (A1 := X.A.in1) (Rs := wants (fun r s₂ => r = .none ∧ EP X pins σ Q (.ref s.heap.objs.size) s₂) X.xe) hc rfl sb FI hmI bI FL hmL bL I2 (keep _ _ ha) hf (keep _ _ hd) upd_same hz (fun H' h' => hsp H' fun b u e => h' b u (keep b u e))
    (fun s' I' => ⟨rfl, .ref s.heap.objs.size, _, I', rfl, ?_⟩) (fun e s' he => he)
  rw [upd_upd]
  exact hq _ fr
end
end L2

set_option Elab.async false
set_option linter.all false
set_option maxRecDepth 100000
set_option maxHeartbeats 4000000
/-! books -/
namespace W8
open PySem PySem.Spec PyProof.Rows L2 L2E
def bkf (a b c d e f : V) : List (Str × V) := [("letters", a), ("texts", b), ("patterns", c), ("former_texts", d), ("former_patterns", e), ("_room", f)]
theorem bk_letters (a b c d e f : V) : (bkf a b c d e f).lookup ("letters" : Str) = some a := by rfl
theorem bk_texts (a b c d e f : V) : (bkf a b c d e f).lookup ("texts" : Str) = some b := by rfl
theorem bk_patterns (a b c d e f : V) : (bkf a b c d e f).lookup ("patterns" : Str) = some c := by rfl
theorem bk_room (a b c d e f : V) : (bkf a b c d e f).lookup ("_room" : Str) = some f := by rfl
theorem bk_no (a b c d e f : V) {m : Str} (h : (((((m == ("letters" : Str)) = false ∧ (m == ("texts" : Str)) = false) ∧ (m == ("patterns" : Str)) = false) ∧ (m == ("former_texts" : Str)) = false) ∧ (m == ("former_patterns" : Str)) = false) ∧ (m == ("_room" : Str)) = false) : (bkf a b c d e f).lookup m = none := by
  unfold bkf
  rw [List.lookup_cons, h.1.1.1.1.1, List.lookup_cons, h.1.1.1.1.2, List.lookup_cons, h.1.1.1.2, List.lookup_cons, h.1.1.2, List.lookup_cons, h.1.2, List.lookup_cons, h.2]
  rfl
structure BkT (K : PySem.W.Frag) (mg : Str → Option Value) (C : Addr) : Prop where
  cl : Cls K C
  nL : NoAttr K C "letters"
  nT : NoAttr K C "texts"
  nP : NoAttr K C "patterns"
  nF : NoAttr K C "former_texts"
  nG : NoAttr K C "former_patterns"
  nR : NoAttr K C "_room"
  mgC : mg "Book" = some (.ref C)
  len : mg "len" = none
/-- the pattern of a name's text -/
def PatE (H : Hp) (CP : Addr) (al : List Nat) (kv : Key × V) (e : Ent) : Prop := kv.1 = kN e.1 ∧ ∃ p rows, kv.2 = .ref p ∧ readP al e.2 = some (.rows rows) ∧ PatAt H p CP al rows
theorem PatE.key {H : Hp} {CP : Addr} {al : List Nat} : ∀ kv e, PatE H CP al kv e → kv.1 = kN e.1 := fun _ _ h => h.1
structure BookAt (H : Hp) (p dx td pd f1 f2 C CP : Addr) (al : List Nat) (room : Nat) (es : List Ent) : Prop where
  o : H p = some (.ins C dx (bkf (.str (S al)) (.ref td) (.ref pd) (.ref f1) (.ref f2) (.int (room : Int))))
  t : H td = some (.dK (tkv es))
  q : ∃ kps, H pd = some (.dK kps) ∧ Paired (PatE H CP al) kps es
  n : td ≠ pd
  A : AlphOk al
  r : room ≤ 100
  l : es.length ≤ room
  v : ∀ e ∈ es, NameOk e.1 ∧ e.2.length ≤ 200
/-- all but a book's two tables are kept -/
def KB (td pd : Addr) (H H' : Hp) : Prop := ∀ b o, b ≠ td → b ≠ pd → H b = some o → H' b = some o
theorem KB.of {td pd : Addr} {H H' : Hp} (s : Same H H') : KB td pd H H' := fun b o _ _ e => s b o e
theorem KB.trans {td pd : Addr} {H H1 H2 : Hp} (x : KB td pd H H1) (y : KB td pd H1 H2) : KB td pd H H2 := fun b o h1 h2 e => y b o h1 h2 (x b o h1 h2 e)
/-- the tables are not among what is looked at -/
theorem KB.same {td pd : Addr} {H0 H H' : Hp} (k : KB td pd H H') (s : Same H0 H) (n1 : H0 td = none) (n2 : H0 pd = none) : Same H0 H' := fun b o e => by
  refine k b o (fun z => ?_) (fun z => ?_) (s b o e) <;> rw [z] at e
  · rw [n1] at e; cases e
  · rw [n2] at e; cases e
theorem PatAt.kb {H H' : Hp} {p C td pd : Addr} {al : List Nat} {rows : List Row} {xs ys : List (Key × V)} (h : PatAt H p C al rows) (k : KB td pd H H') (h1 : H td = some (.dK xs)) (h2 : H pd = some (.dK ys)) : PatAt H' p C al rows := by
  obtain ⟨dx, rt, ts, a, b, c⟩ := h.ex
  have go : ∀ {b : Addr} {u : HO}, H b = some u → (∀ zs, u ≠ .dK zs) → H' b = some u := fun {b u} e n => k b u (fun z => by rw [z, h1] at e; exact n _ (Option.some.inj e).symm) (fun z => by rw [z, h2] at e; exact n _ (Option.some.inj e).symm) e
  exact ⟨dx, rt, ts, go a (fun _ z => nomatch z), go b (fun _ z => nomatch z), Paired.mapP c fun _ _ z => go z (fun _ z => nomatch z)⟩
section
variable {H H' : Hp} {p dx td pd f1 f2 C CP : Addr} {al : List Nat} {room : Nat} {es : List Ent}
theorem BookAt.mono (h : BookAt H p dx td pd f1 f2 C CP al room es) (s : Same H H') : BookAt H' p dx td pd f1 f2 C CP al room es := by
  obtain ⟨kps, a, b⟩ := h.q
  exact ⟨s _ _ h.o, s _ _ h.t, ⟨kps, s _ _ a, Paired.mapP b fun kv e ⟨e1, q, rows, e2, e3, e4⟩ => ⟨e1, q, rows, e2, e3, e4.mono s⟩⟩, h.n, h.A, h.r, h.l, h.v⟩
end
theorem told_some_len {es : List Ent} {n t : List Nat} (h : (toldE es n).isSome = true) : (putE es n t).length = es.length := by rw [put_len, if_pos h]
theorem readP_len {al tx : List Nat} {rows : List Row} (h : readP al tx = some (.rows rows)) : tx.length ≤ 200 := by
  unfold readP at h
  split at h
  · cases h
  · omega
abbrev sBInit : Stmt := inClass (top 53) 0
theorem scBInit : FnScope ["self", "letters", "room"] ["self", "letters", "room"] (defScope sBInit) := ⟨rfl, rfl, rfl, by decide +kernel, rfl, by decide +kernel, by decide +kernel⟩
def spBInit (C CP : Addr) : Sp := fun vs H Q _ => ∃ (p dx : Addr) (al : List Nat) (room : Nat), vs = [.ref p, .str (S al), .int (room : Int)] ∧ H p = some (.ins C dx []) ∧ AlphOk al ∧ room ≤ 100 ∧
  ∀ H' td pd f1 f2, But p H H' → H td = none → H pd = none → BookAt H' p dx td pd f1 f2 C CP al room [] → Q .non H'
abbrev sBLen : Stmt := inClass (top 53) 4
theorem scBLen : FnScope ["self"] ["self"] (defScope sBLen) := ⟨rfl, rfl, rfl, by decide +kernel, rfl, by decide +kernel, by decide +kernel⟩
/-- the tables may be locked -/
def BookL (H : Hp) (p dx td pd f1 f2 C : Addr) (al : List Nat) (room : Nat) (es : List Ent) : Prop := H p = some (.ins C dx (bkf (.str (S al)) (.ref td) (.ref pd) (.ref f1) (.ref f2) (.int (room : Int)))) ∧ Rd H td (.dK (tkv es))
def spBLen (C : Addr) : Sp := fun vs H Q _ => ∃ (p dx td pd f1 f2 : Addr) (al : List Nat) (room : Nat) (es : List Ent), vs = [.ref p] ∧ BookL H p dx td pd f1 f2 C al room es ∧ Q (.int (es.length : Int)) H
abbrev sBIter : Stmt := inClass (top 53) 5
theorem scBIter : FnScope ["self"] ["self"] (defScope sBIter) := ⟨rfl, rfl, rfl, by decide +kernel, rfl, by decide +kernel, by decide +kernel⟩
abbrev sBIn : Stmt := inClass (top 53) 6
theorem scBIn : FnScope ["self", "name"] ["self", "name"] (defScope sBIn) := ⟨rfl, rfl, rfl, by decide +kernel, rfl, by decide +kernel, by decide +kernel⟩
def spBIn (C : Addr) : Sp := fun vs H Q _ => ∃ (p dx td pd f1 f2 : Addr) (al : List Nat) (room : Nat) (es : List Ent) (nm : List Nat), vs = [.ref p, .str (S nm)] ∧ BookL H p dx td pd f1 f2 C al room es ∧ Q (.bl (toldE es nm).isSome) H
abbrev sBSet : Stmt := inClass (top 53) 8
theorem scBSet : FnScope ["self", "name", "text", "pattern"] ["self", "name", "text"] (defScope sBSet) := ⟨rfl, rfl, rfl, by decide +kernel, rfl, by decide +kernel, by decide +kernel⟩
def spBSet (c : Nat → Addr) (C CP : Addr) : Sp := fun vs H Q E => ∃ (p dx td pd f1 f2 : Addr) (al : List Nat) (room : Nat) (es : List Ent) (nm tx : List Nat) (r : RR), vs = [.ref p, .str (S nm), .str (S tx)] ∧ BookAt H p dx td pd f1 f2 C CP al room es ∧ nm.length ≤ 1000 ∧ tx.length ≤ 1000 ∧ readP al tx = some r ∧
  (¬ NameOk nm → ErrF E (c 12) "name" (.str (S nm)) H) ∧ (NameOk nm → (∀ i, r = .text i → ErrF E (c 11) "index" (.int (i : Int)) H) ∧ (r = .long → ErrF E (c 15) "limit" (.int 200) H) ∧
    ∀ rows, r = .rows rows → (toldE es nm = none → es.length = room → ErrF E (c 15) "limit" (.int (room : Int)) H) ∧
      ((toldE es nm = none → es.length ≠ room) → ∀ H', KB td pd H H' → BookAt H' p dx td pd f1 f2 C CP al room (putE es nm tx) → Q .non H'))
abbrev sBDrop : Stmt := inClass (top 53) 11
theorem scBDrop : FnScope ["self", "name"] ["self", "name"] (defScope sBDrop) := ⟨rfl, rfl, rfl, by decide +kernel, rfl, by decide +kernel, by decide +kernel⟩
def spBDrop (c : Nat → Addr) (C CP : Addr) : Sp := fun vs H Q E => ∃ (p dx td pd f1 f2 : Addr) (al : List Nat) (room : Nat) (es : List Ent) (nm : List Nat), vs = [.ref p, .str (S nm)] ∧ BookAt H p dx td pd f1 f2 C CP al room es ∧
  (toldE es nm = none → ErrF E (c 12) "name" (.str (S nm)) H) ∧ ((toldE es nm).isSome = true → ∀ H', KB td pd H H' → BookAt H' p dx td pd f1 f2 C CP al room (dropE es nm) → Q .non H')
abbrev sBWritten : Stmt := inClass (top 53) 15
theorem scBWritten : FnScope ["self", "name"] ["self"] (defScope sBWritten) := ⟨rfl, rfl, rfl, by decide +kernel, rfl, by decide +kernel, by decide +kernel⟩
def lineE (e : Ent) : Str := S (e.1 ++ 61 :: e.2)
def spBWritten (C CP : Addr) : Sp := fun vs H Q _ => ∃ (p dx td pd f1 f2 : Addr) (al : List Nat) (room : Nat) (es : List Ent), vs = [.ref p] ∧ BookAt H p dx td pd f1 f2 C CP al room es ∧ ((es.map (·.1)).Nodup) ∧ ∀ H', Same H H' → Q (.str (Txt.join "\n" (es.map lineE))) H'
section
variable {P : Program} {w : World} {K : PySem.W.Frag} {mg : Str → Option Value} {base : Heap} {c : Nat → Addr} {fT fN fL : Addr}
theorem ok_binit {f C CP : Addr} {fd : FuncData} {dvs : List V} {kws : List (Str × V)} (F : FunD K "__init__" "Book.__init__" (defArgs sBInit) (defBody sBInit) (defScope sBInit) dvs kws f fd) (T : BkT K mg C) (ccheck_letters : Cal P w K mg base "check_letters" 1 ["letters"] spCheckL) (ccheck_room : Cal P w K mg base "check_room" 1 ["room", "least"] spRoomC) : FnOk P w K mg base CX0 2 f fd ["self", "letters", "room"] (spBInit C CP) := by
  refine F.ok (CX := CX0) scBInit (fun vs H Q E h => ?_) (fun cdv A outer s H vs Q E hr h => ?_)
  · obtain ⟨p, dx, al, room, rfl, _⟩ := h
    rfl
  obtain ⟨p, dx, al, room, rfl, hp, hA, hrm, q⟩ := h
  refine ⟨_, (pss_cons (ps_fld (pv 0) (pcall ccheck_letters hr (pa_cons (pv 1) pa_nil)) rfl)
    (pss_cons (ps_fld (pv 0) pe_dnewK rfl)
    (pss_cons (ps_fld (pv 0) pe_dnewK rfl)
    (pss_cons (ps_fld (pv 0) pe_dnewK rfl)
    (pss_cons (ps_fld (pv 0) pe_dnewK rfl)
    (pss_one (ps_fld (pv 0) (pcall ccheck_room hr (pa_cons (pv 2) (pa_cons pe_int pa_nil))) rfl))))))), ?_⟩
  refine ⟨_, rfl, al, rfl, hA, _, rfl, p, C, dx, _, rfl, hp, T.cl, T.nL, (by show 0 < 1000; decide), ?_⟩
  have b0 : But p H (upd H p (.ins C dx (putF "letters" (.str (S al)) []))) := But.upd
  have hp0 : upd H p (.ins C dx (putF "letters" (.str (S al)) [])) p = some (.ins C dx (putF "letters" (.str (S al)) [])) := upd_same
  generalize upd H p (.ins C dx (putF "letters" (.str (S al)) [])) = H0 at *
  have free : ∀ {H1 : Hp} {b : Addr}, But p H H1 → H1 p ≠ none → H1 b = none → H b = none := fun {H1 b} bt np hb => by
    cases hh : H b with
    | none => rfl
    | some o =>
      have : b ≠ p := fun z => by rw [z] at hb; exact np hb
      rw [bt b o this hh] at hb
      cases hb
  have step : ∀ (H1 : Hp) (fs : List (Str × V)) (nm : Str) (d : Addr), But p H H1 → H1 p = some (.ins C dx fs) → H1 d = none → (But p H (upd (upd H1 d (.dK [])) p (.ins C dx (putF nm (.ref d) fs)))) ∧ (upd (upd H1 d (.dK [])) p (.ins C dx (putF nm (.ref d) fs))) p = some (.ins C dx (putF nm (.ref d) fs)) ∧
      (upd H1 d (.dK [])) p = some (.ins C dx fs) ∧ (upd (upd H1 d (.dK [])) p (.ins C dx (putF nm (.ref d) fs))) d = some (.dK []) ∧ (∀ b o, b ≠ p → H1 b = some o → (upd (upd H1 d (.dK [])) p (.ins C dx (putF nm (.ref d) fs))) b = some o) ∧ H d = none := fun H1 fs nm d bt hp1 hd => by
    have nd : d ≠ p := Ne.symm (ne_of_none hp1 hd)
    refine ⟨bt.trans ((But.new hd _).trans But.upd), upd_same, by rw [upd_ne (Ne.symm nd)]; exact hp1, by rw [upd_ne nd, upd_same], fun b o hb e => ?_, free bt (by rw [hp1]; simp) hd⟩
    rw [upd_ne hb, upd_ne (fun z => by rw [z, hd] at e; cases e)]
    exact e
  refine fun td htd => ?_
  obtain ⟨b1, hp1, hq1, ht1, k1, ntd⟩ := step H0 _ "texts" td b0 hp0 htd
  refine ⟨_, rfl, p, C, dx, _, rfl, hq1, T.cl, T.nT, (by show 1 < 1000; decide), ?_⟩
  clear hq1 k1
  generalize upd (upd H0 td (.dK [])) p (.ins C dx (putF "texts" (.ref td) (putF "letters" (.str (S al)) []))) = H1 at *
  have nt : td ≠ p := ne_of ht1 hp1 (fun z => nomatch z)
  refine fun pd hpd => ?_
  obtain ⟨b2, hp2, hq2, ht2, k2, npd⟩ := step H1 _ "patterns" pd b1 hp1 hpd
  have n12 : td ≠ pd := ne_of_none ht1 hpd
  refine ⟨_, rfl, p, C, dx, _, rfl, hq2, T.cl, T.nP, (by show 2 < 1000; decide), ?_⟩
  have ht1 := k2 _ _ nt ht1
  clear hq2 k2
  generalize upd (upd H1 pd (.dK [])) p (.ins C dx (putF "patterns" (.ref pd) (putF "texts" (.ref td) (putF "letters" (.str (S al)) [])))) = H2 at *
  have np : pd ≠ p := ne_of ht2 hp2 (fun z => nomatch z)
  refine fun f1 hf1 => ?_
  obtain ⟨b3, hp3, hq3, ht3, k3, nf1⟩ := step H2 _ "former_texts" f1 b2 hp2 hf1
  refine ⟨_, rfl, p, C, dx, _, rfl, hq3, T.cl, T.nF, (by show 3 < 1000; decide), ?_⟩
  have ht1 := k3 _ _ nt ht1
  have ht2 := k3 _ _ np ht2
  clear hq3 k3
  generalize upd (upd H2 f1 (.dK [])) p (.ins C dx (putF "former_texts" (.ref f1) (putF "patterns" (.ref pd) (putF "texts" (.ref td) (putF "letters" (.str (S al)) []))))) = H3 at *
  refine fun f2 hf2 => ?_
  obtain ⟨b4, hp4, hq4, ht4, k4, nf2⟩ := step H3 _ "former_patterns" f2 b3 hp3 hf2
  refine ⟨_, rfl, p, C, dx, _, rfl, hq4, T.cl, T.nG, (by show 4 < 1000; decide), ?_⟩
  have ht1 := k4 _ _ nt ht1
  have ht2 := k4 _ _ np ht2
  clear hq4 k4
  generalize upd (upd H3 f2 (.dK [])) p (.ins C dx (putF "former_patterns" (.ref f2) (putF "former_texts" (.ref f1) (putF "patterns" (.ref pd) (putF "texts" (.ref td) (putF "letters" (.str (S al)) [])))))) = H4 at *
  refine ⟨_, rfl, room, 0, rfl, Nat.zero_le _, hrm, _, rfl, p, C, dx, _, rfl, hp4, T.cl, T.nR, (by show 5 < 1000; decide), ?_⟩
  refine q _ td pd f1 f2 (b4.trans But.upd) ntd npd ⟨?_, ?_, ⟨[], ?_, .nil⟩, n12, hA, hrm, Nat.zero_le _, fun e h => (by cases h)⟩
  · rw [upd_same]
    rfl
  · rw [upd_ne nt]; exact ht1
  · rw [upd_ne np]; exact ht2
end
end W8

set_option Elab.async false
set_option linter.all false
set_option maxRecDepth 100000
set_option maxHeartbeats 4000000
namespace W8
open PySem PySem.Spec PyProof.Rows L2 L2E
/-- len of a dict, locked or not -/
theorem call_lenR {X : Cx} : CallR X (.builtin "len") (fun xs H Q => ∃ a kvs, xs = [V.ref a] ∧ Rd H a (.dK kvs) ∧ Q (.int kvs.length) H) := by
  intro pins s σ H xs us Q I r h
  obtain ⟨a, kvs, rfl, ha, q⟩ := h
  obtain ⟨u, rfl, ru⟩ := vals1 r
  cases ru
  exact d_len I ha fun t s' I' => ⟨.int kvs.length, H, I', ⟨t, rfl⟩, q⟩
theorem tkv_len (es : List Ent) : (tkv es).length = es.length := by unfold tkv; rw [List.length_map]
theorem DGet.tkv {H : Hp} {td : Addr} {es : List Ent} {nm : List Nat} (h : Rd H td (.dK (tkv es))) : DGet H td (.str (S nm)) ((toldE es nm).map fun t => V.str (S t)) := .inl ⟨_, kN nm, h, rfl, (valV_tkv es nm).symm⟩
section
variable {P : Program} {w : World} {K : PySem.W.Frag} {mg : Str → Option Value} {base : Heap} {c : Nat → Addr} {fT fN fL : Addr}
theorem ok_blen {f C : Addr} {fd : FuncData} (F : Fun K "__len__" "Book.__len__" sBLen f fd) (T : BkT K mg C) : FnOk P w K mg base CX0 1 f fd ["self"] (spBLen C) := by
  refine F.ok scBLen (fun vs H Q E h => ?_) (fun cdv A outer s H vs Q E hr h => ?_)
  · obtain ⟨p, dx, td, pd, f1, f2, al, room, es, rfl, _⟩ := h
    rfl
  obtain ⟨p, dx, td, pd, f1, f2, al, room, es, rfl, ⟨ho, ht⟩, q⟩ := h
  refine ⟨_, (pss_one (ps_ret (pB1 call_lenR T.len (pe_fld (pv 0) rfl)))), ?_⟩
  refine ⟨_, rfl, p, C, dx, _, _, rfl, ho, T.cl, T.nT, bk_texts _ _ _ _ _ _, td, _, rfl, ht, ?_⟩
  rw [tkv_len]
  exact q
theorem ok_biter {f C : Addr} {fd : FuncData} (F : Fun K "__iter__" "Book.__iter__" sBIter f fd) (T : BkT K mg C) (ti : mg "iter" = none) : FnAt P w K mg base CX0 1 f fd ["self"] (spIterD C "texts") := by
  obtain ⟨oc, od, kV', doc, pm, an, cdv, ct, osl, rfl, lk, hcd⟩ := F.ex
  refine fn_at lk hcd scBIter (fun n vs H Q E h => ?_) (fun A outer s H vs Q E hr h => ?_)
  · obtain ⟨a, dx, fs, d, o, kvs, rfl, _⟩ := h
    rfl
  obtain ⟨a, dx, fs, d, o, kvs, rfl, ha, hf, hd, q⟩ := h
  refine ⟨_, (pss_one (ps_ret (pB1 call_iterD ti (pe_fld (pv 0) rfl)))), ?_⟩
  exact ⟨_, rfl, a, C, dx, fs, _, rfl, ha, T.cl, T.nT, hf, d, o, kvs, rfl, hd, q⟩
theorem ok_bin {f C : Addr} {fd : FuncData} (F : Fun K "__contains__" "Book.__contains__" sBIn f fd) (T : BkT K mg C) : FnOk P w K mg base CX0 1 f fd ["self", "name"] (spBIn C) := by
  refine F.ok scBIn (fun vs H Q E h => ?_) (fun cdv A outer s H vs Q E hr h => ?_)
  · obtain ⟨p, dx, td, pd, f1, f2, al, room, es, nm, rfl, _⟩ := h
    rfl
  obtain ⟨p, dx, td, pd, f1, f2, al, room, es, nm, rfl, ⟨ho, ht⟩, q⟩ := h
  have hu := hr.units
  refine ⟨_, (pss_one (ps_ret (pe_cmp (pc_din (Nat.lt_of_le_of_lt (Nat.add_le_add_left (by decide) _) hu) (pv 1) (pe_fld (pv 0) rfl))))), ?_⟩
  refine ⟨_, rfl, _, rfl, p, C, dx, _, _, rfl, ho, T.cl, T.nT, bk_texts _ _ _ _ _ _, td, _, rfl, DGet.tkv ht, ?_⟩
  rw [Option.isSome_map]
  exact q
theorem ok_bset {f C CP : Addr} {fd : FuncData} (F : Fun K "__setitem__" "Book.__setitem__" sBSet f fd) (T : BkT K mg C) (X : BkE P K mg c fT fN fL) (cname : CalX P w K mg base "check_name" 3 ["name"] (spName c)) (cread : CalX P w K mg base "read_pattern" 7 ["text", "letters"] (spRead c CP)) :
    FnOk P w K mg base (L2N.CX P w) 8 f fd ["self", "name", "text"] (spBSet c C CP) := by
  refine okN F scBSet (fun vs H Q E h => ?_) (fun cdv A outer s H vs Q E hr h => ?_)
  · obtain ⟨p, dx, td, pd, f1, f2, al, room, es, nm, tx, r, rfl, _⟩ := h
    rfl
  obtain ⟨p, dx, td, pd, f1, f2, al, room, es, nm, tx, r, rfl, G, hn, ht, hrd, eN, q⟩ := h
  have hu := Nat.lt_of_le_of_lt (Nat.add_le_add_left (show 1 ≤ 64 by decide) _) hr.units
  refine ⟨_, (pss_cons (ps_expr (pcallX (E := E) cname hr (L2N.passes_call (L2N.takes_of rfl rfl rfl rfl) (fun _ _ _ _ h => h)) (pa_cons (pv 1) pa_nil)))
    (pss_cons (ps_set (i := 3) scBSet.nd rfl (Or.inl rfl) (pcallX (E := E) cread hr (L2N.passes_call (L2N.takes_of rfl rfl rfl rfl) (fun _ _ _ _ h => h)) (pa_cons (pv 2) (pa_cons (pe_fld (pv 0) rfl) pa_nil))))
    (pss_cons (ps_if (PW.pt (pw_and (pt_cmp (pc_dnotin hu (pv 1) (pe_fld (pv 0) rfl))) (pw_and1 (pt_cmpR op_eq (pB1 call_lenR T.len (pe_fld (pv 0) rfl)) (pe_fld (pv 0) rfl) (nomark _)))))
      (pss_one (L2N.ps_raise rfl (L2N.takes_of rfl rfl rfl rfl) (L2N.pmk_xm X.l hr X.mL X.sup (pa_cons (pe_fld (pv 0) rfl) pa_nil))))
      pss_nil)
    (pss_cons (ps_dput hu (pe_fld (pv 0) rfl) (pv 1) (pv 2) rfl)
    (pss_one (ps_dput hu (pe_fld (pv 0) rfl) (pv 1) (pv 3) rfl)))))), ?_⟩
  refine ⟨_, rfl, nm, rfl, hn, fun hok => ?_, eN⟩
  obtain ⟨eT, eL, q⟩ := q hok
  refine ⟨_, rfl, _, rfl, p, C, dx, _, _, rfl, G.o, T.cl, T.nL, bk_letters _ _ _ _ _ _, tx, al, r, rfl, G.A, ht, hrd, fun rows hr' pp H1 s1 hpp PA => ?_, eT, eL⟩
  subst hr'
  obtain ⟨eR, q⟩ := q rows rfl
  have G1 := G.mono s1
  obtain ⟨kps, hk, hk2⟩ := G1.q
  refine ⟨_, rfl, _, rfl, p, C, dx, _, _, rfl, G1.o, T.cl, T.nT, bk_texts _ _ _ _ _ _, td, _, rfl, DGet.tkv (.inl G1.t), _, rfl, ?_⟩
  rw [Option.isSome_map]
  have fin : (toldE es nm = none → es.length ≠ room) → sDPut (tFld K (tVar 0) "texts") (tVar 1) (tVar 2) { nx := sDPut (tFld K (tVar 0) "patterns") (tVar 1) (tVar 3) { nx := fun _ H' => Q .non H', rt := Q }, rt := Q } [some (.ref p), some (.str (S nm)), some (.str (S tx)), some (.ref pp)] H1 := fun hroom => by
    have hlen : (putE es nm tx).length ≤ room := by
      rw [put_len]
      have := G.l
      split
      · exact this
      · rename_i h9
        have := hroom (by cases hh : toldE es nm with | none => rfl | some _ => rw [hh] at h9; exact absurd rfl h9)
        omega
    have hl1 : (tkv es).length < sizeLine := by rw [tkv_len]; exact small_lt (by have := G.l; have := G.r; omega)
    have hl2 : kps.length < sizeLine := by rw [Paired.length hk2]; exact small_lt (by have := G.l; have := G.r; omega)
    refine ⟨_, rfl, _, rfl, p, C, dx, _, _, rfl, G1.o, T.cl, T.nT, bk_texts _ _ _ _ _ _, _, rfl, td, _, rfl, DPut.k (k := kN nm) G1.t hl1, ?_⟩
    rw [tkv_put]
    have npt : p ≠ td := ne_of G1.o G1.t (fun z => nomatch z)
    have npp : p ≠ pd := ne_of G1.o hk (fun z => nomatch z)
    refine ⟨_, rfl, _, rfl, p, C, dx, _, _, rfl, by rw [upd_ne npt]; exact G1.o, T.cl, T.nP, bk_patterns _ _ _ _ _ _, _, rfl, pd, _, rfl, DPut.k (k := kN nm) (by rw [upd_ne (Ne.symm G1.n)]; exact hk) hl2, ?_⟩
    have kb : KB td pd H1 (upd (upd H1 td (.dK (tkv (putE es nm tx)))) pd (.dK (putK kps (kN nm) (.ref pp)))) := fun b o h1 h2 e => by rw [upd_ne h2, upd_ne h1]; exact e
    refine q hroom _ ((KB.of s1).trans kb) ⟨by rw [upd_ne npp, upd_ne npt]; exact G1.o, by rw [upd_ne G1.n, upd_same], ⟨_, upd_same, ?_⟩, G.n, G.A, G.r, hlen, fun e he => ?_⟩
    · refine put_R PatE.key ⟨rfl, pp, rows, rfl, hrd, PA.kb kb G1.t hk⟩ (Paired.mapP hk2 fun kv e ⟨e1, q1, rows1, e2, e3, e4⟩ => ⟨e1, q1, rows1, e2, e3, e4.kb kb G1.t hk⟩)
    · rcases put_mem he with z | rfl
      · exact G.v e z
      · exact ⟨hok, readP_len hrd⟩
  refine ite2 (fun h1 => ?_) (fun h1 => ?_)
  · have hnone : toldE es nm = none := by
      cases hh : toldE es nm with
      | none => rfl
      | some _ => rw [hh] at h1; cases h1
    refine ⟨_, rfl, p, C, dx, _, _, rfl, G1.o, T.cl, T.nT, bk_texts _ _ _ _ _ _, td, _, rfl, .inl G1.t, _, rfl, p, C, dx, _, _, rfl, G1.o, T.cl, T.nR, bk_room _ _ _ _ _ _, rfl, _, rfl, ?_⟩
    rw [tkv_len]
    refine ite2 (fun h2 => ?_) (fun h2 => ?_)
    · have e8 : V.int (es.length : Int) = V.int (room : Int) := of_decide_eq_true h2
      have e9 : es.length = room := by
        have : (es.length : Int) = (room : Int) := by injection e8
        omega
      exact ⟨_, rfl, p, C, dx, _, _, rfl, G1.o, T.cl, T.nR, bk_room _ _ _ _ _ _, _, rfl, fun d hd => (eR hnone e9).go s1 hd⟩
    · exact fin fun _ e9 => h2 (by rw [e9]; exact decide_eq_true rfl)
  · refine ite2 (fun z => (by cases z)) (fun _ => ?_)
    exact fin fun hnone => absurd (by rw [hnone]; rfl) h1
theorem ok_bdrop {f C CP : Addr} {fd : FuncData} (F : Fun K "drop" "Book.drop" sBDrop f fd) (T : BkT K mg C) (X : BkE P K mg c fT fN fL) : FnOk P w K mg base (L2N.CX P w) 3 f fd ["self", "name"] (spBDrop c C CP) := by
  refine okN F scBDrop (fun vs H Q E h => ?_) (fun cdv A outer s H vs Q E hr h => ?_)
  · obtain ⟨p, dx, td, pd, f1, f2, al, room, es, nm, rfl, _⟩ := h
    rfl
  obtain ⟨p, dx, td, pd, f1, f2, al, room, es, nm, rfl, G, eN, q⟩ := h
  have hu := Nat.lt_of_le_of_lt (Nat.add_le_add_left (show 1 ≤ 64 by decide) _) hr.units
  refine ⟨_, (pss_cons (ps_if (pt_cmp (pc_dnotin hu (pv 1) (pe_fld (pv 0) rfl)))
      (pss_one (L2N.ps_raise rfl (L2N.takes_of rfl rfl rfl rfl) (L2N.pmk_xm X.n hr X.mN X.sup (pa_cons (pv 1) pa_nil))))
      pss_nil)
    (pss_cons (ps_ddel (pe_fld (pv 0) rfl) (pv 1))
    (pss_one (ps_ddel (pe_fld (pv 0) rfl) (pv 1))))), ?_⟩
  obtain ⟨kps, hk, hk2⟩ := G.q
  refine ⟨_, rfl, _, rfl, p, C, dx, _, _, rfl, G.o, T.cl, T.nT, bk_texts _ _ _ _ _ _, td, _, rfl, DGet.tkv (.inl G.t), _, rfl, ?_⟩
  rw [Option.isSome_map]
  refine ite2 (fun h1 => ?_) (fun h1 => ?_)
  · have hnone : toldE es nm = none := by
      cases hh : toldE es nm with
      | none => rfl
      | some _ => rw [hh] at h1; cases h1
    exact ⟨_, rfl, _, rfl, fun d hd => (eN hnone).go (Same.refl H) hd⟩
  have hsome : (toldE es nm).isSome = true := by
    cases hh : toldE es nm with
    | none => rw [hh] at h1; exact absurd rfl h1
    | some _ => rfl
  have npt : p ≠ td := ne_of G.o G.t (fun z => nomatch z)
  have npp : p ≠ pd := ne_of G.o hk (fun z => nomatch z)
  refine ⟨_, rfl, p, C, dx, _, _, rfl, G.o, T.cl, T.nT, bk_texts _ _ _ _ _ _, _, rfl, td, _, kN nm, rfl, G.t, rfl, by rw [valV_tkv, Option.isSome_map]; exact hsome, ?_⟩
  rw [tkv_drop]
  refine ⟨_, rfl, p, C, dx, _, _, rfl, by rw [upd_ne npt]; exact G.o, T.cl, T.nP, bk_patterns _ _ _ _ _ _, _, rfl, pd, _, kN nm, rfl, by rw [upd_ne (Ne.symm G.n)]; exact hk, rfl, by rw [valV_R PatE.key nm hk2]; exact hsome, ?_⟩
  have kb : KB td pd H (upd (upd H td (.dK (tkv (dropE es nm)))) pd (.dK (dropK kps (kN nm)))) := fun b o h1 h2 e => by rw [upd_ne h2, upd_ne h1]; exact e
  refine q hsome _ kb ⟨by rw [upd_ne npp, upd_ne npt]; exact G.o, by rw [upd_ne G.n, upd_same], ⟨_, upd_same, ?_⟩, G.n, G.A, G.r, Nat.le_trans (List.length_filter_le _ _) G.l, fun e he => G.v e (List.mem_filter.mp he).1⟩
  exact drop_R PatE.key nm (Paired.mapP hk2 fun kv e ⟨e1, q1, rows1, e2, e3, e4⟩ => ⟨e1, q1, rows1, e2, e3, e4.kb kb G.t hk⟩)
end
end W8

set_option Elab.async false
set_option linter.all false
set_option maxRecDepth 100000
set_option maxHeartbeats 4000000
namespace W8
open PySem PySem.Spec PyProof.Rows L2 L2E
/-- an f-string of several parts -/
def tJd (ts : List TE) : TE := fun σ H Q => tJs ts Str.empty σ H fun out H1 => Q (.str out) H1
theorem pe_jd {X : Cx} {v1 v2 : Expr} {rest : List Expr} {ts : List TE} {pos : Pos} (h : PJ X (v1 :: v2 :: rest) ts) : PE X (.JoinedStr (v1 :: v2 :: rest) pos) (tJd ts) := pe_joined h
theorem c61 : ("=" : Str) = S [61] := by decide +kernel
theorem told_get : ∀ {es : List Ent} {i : Nat} {e : Ent}, (es.map (·.1)).Nodup → es[i]? = some e → toldE es e.1 = some e.2
  | [], _, _, _, h => by cases h
  | d :: es, 0, e, _, h => by
    cases h
    rw [told_cons, if_pos rfl]
  | d :: es, i + 1, e, nd, h => by
    have h' : es[i]? = some e := by simpa using h
    rw [List.map_cons, List.nodup_cons] at nd
    have ne : ¬ d.1 = e.1 := fun z => nd.1 (by rw [z]; exact List.mem_map.mpr ⟨e, List.mem_of_getElem? h', rfl⟩)
    rw [told_cons, if_neg ne]
    exact told_get nd.2 h'
theorem emp_app (z : List Nat) : (Str.empty ++ S z : Str) = S z := by
  show (S [] ++ S z : Str) = _
  rw [S_app]
  rfl
theorem line_len {e : Ent} (h1 : e.1.length ≤ 12) (h2 : e.2.length ≤ 200) : (lineE e).length ≤ 213 := by
  show (e.1 ++ 61 :: e.2).length ≤ 213
  rw [List.length_append, List.length_cons]
  omega
theorem sum_le {xs : List Nat} {n : Nat} (h : ∀ x ∈ xs, x ≤ n) : xs.sum ≤ xs.length * n := by
  induction xs with
  | nil => exact Nat.zero_le _
  | cons x xs ih =>
    rw [List.sum_cons, List.length_cons, Nat.succ_mul]
    have := h x List.mem_cons_self
    have := ih fun y hy => h y (List.mem_cons_of_mem _ hy)
    omega
section
variable {P : Program} {w : World} {K : PySem.W.Frag} {mg : Str → Option Value} {base : Heap} {c : Nat → Addr} {fT fN fL : Addr}
theorem ok_bwritten {f C CP : Addr} {fd : FuncData} (F : Fun K "written" "Book.written" sBWritten f fd) (T : BkT K mg C) : FnOk P w K mg base CX0 1 f fd ["self"] (spBWritten C CP) := by
  refine F.ok scBWritten (fun vs H Q E h => ?_) (fun cdv A outer s H vs Q E hr h => ?_)
  · obtain ⟨p, dx, td, pd, f1, f2, al, room, es, rfl, _⟩ := h
    rfl
  obtain ⟨p, dx, td, pd, f1, f2, al, room, es, rfl, G, nd, q⟩ := h
  have hu := Nat.lt_of_le_of_lt (Nat.add_le_add_left (show 1 ≤ 64 by decide) _) hr.units
  refine ⟨_, (pss_one (ps_ret (pe_lock (pe_join pe_str (pe_lc (own := [("name", 1)]) (g := gName 1) (tt := tYes) rfl scBWritten.nd (pi_keys (pe_fld (pv 0) rfl)) (blkOk_by (own := [("name", 1)]) (N := ["self", "name"]) (sc := defScope sBWritten) (by decide +kernel)) (fun _ _ _ _ _ => (pg_name (i := 1) scBWritten.nd rfl (Or.inl rfl))) (fun _ _ _ _ _ => pts_nil) (fun _ _ _ _ _ => pe_jd (ts := [tFmt (tVar 1), tC (.str "="), tFmt (tDGet (tFld K (tVar 0) "texts") (tVar 1))]) (.cons (pe_fmt (pv 1)) (.cons pe_str (.cons (pe_fmt (pe_dget (by exact hu) (pe_fld (pv 0) (by rfl)) (pv 1) (fun _ _ => rfl))) .nil))))))))), ?_⟩
  have npt : p ≠ td := ne_of G.o G.t (fun z => nomatch z)
  refine ⟨td, _, G.t, trivial, fun od => ?_⟩
  have hp0 : upd H td (.frz od (.dK (tkv es))) p = some (.ins C dx (bkf (.str (S al)) (.ref td) (.ref pd) (.ref f1) (.ref f2) (.int (room : Int)))) := by rw [upd_ne npt]; exact G.o
  have ht0 : upd H td (.frz od (.dK (tkv es))) td = some (.frz od (.dK (tkv es))) := upd_same
  generalize hH0 : upd H td (.frz od (.dK (tkv es))) = H0 at *
  refine ⟨⟨_, rfl⟩, _, rfl, p, C, dx, _, _, rfl, hp0, T.cl, T.nT, bk_texts _ _ _ _ _ _, td, od, rfl, .inl ⟨_, ht0, fun L hL => ?_⟩⟩
  have l100 : es.length ≤ 100 := Nat.le_trans G.l G.r
  refine L2.lc_it L2.walk_keys (fun i H' => Same H0 H' ∧ H' L = some (.lst ((es.take i).map fun e => V.str (lineE e)))) ⟨same_new hL _, upd_same⟩ (fun _ _ _ ⟨s, _⟩ => s _ _ ht0) ?_ ?_
  · rintro i x H1 H2 hi ⟨s1, hL1⟩ ⟨rfl, k, v, hk, rfl⟩
    unfold tkv at hk
    rw [List.getElem?_map] at hk
    cases he : es[i]? with
    | none => rw [he] at hk; cases hk
    | some e =>
      rw [he] at hk
      cases hk
      obtain ⟨hn, h200⟩ := G.v e (List.mem_of_getElem? he)
      have hn12 := hn.n12
      refine ⟨rfl, _, rfl, .inl ⟨S e.1, rfl, by rw [S_len]; exact sz (by omega), S e.1, rfl, ?_, ?_⟩⟩
      · rw [emp_app, S_len]; exact sz (by omega)
      rw [emp_app]
      refine ⟨_, rfl, ?_, ?_⟩
      · rw [c61, S_app, S_len, List.length_append]; exact sz (by show _ + 1 ≤ _; omega)
      rw [c61, S_app]
      have hg : DGet H2 td (.str (S e.1)) (some (V.str (S e.2))) := by
        have := DGet.tkv (es := es) (nm := e.1) (.inr ⟨od, s1 _ _ ht0⟩)
        rw [told_get nd he] at this
        exact this
      refine ⟨_, rfl, p, C, dx, _, _, rfl, s1 _ _ hp0, T.cl, T.nT, bk_texts _ _ _ _ _ _, _, rfl, td, _, rfl, hg, .inl ⟨S e.2, rfl, by rw [S_len]; exact sz (by omega), S e.2, rfl, ?_, ?_⟩⟩
      · rw [S_app, S_len, List.length_append, List.length_append]; exact sz (by show _ + 1 + _ ≤ _; omega)
      refine ⟨_, hL1, small_lt (by rw [List.length_map, List.length_take]; omega), same_upd s1 hL, ?_⟩
      rw [upd_same, List.take_add_one, he, List.map_append, S_app]
      show some (HO.lst (_ ++ [V.str (S ((e.1 ++ [61]) ++ e.2))])) = some (HO.lst (_ ++ [V.str (S (e.1 ++ 61 :: e.2))]))
      rw [List.append_assoc]
      rfl
  · rintro H1 ⟨s1, hL1⟩
    rw [tkv_len, List.take_length] at hL1
    have e9 : (es.map fun e => V.str (lineE e)) = (es.map lineE).map V.str := by rw [List.map_map]; rfl
    rw [e9] at hL1
    refine ⟨_, L, es.map lineE, rfl, rfl, .inl (SqL.of hL1), ?_, s1 _ _ ht0, q _ fun b o e => ?_⟩
    · have h1 := sum_le (xs := (es.map lineE).map (·.length)) (n := 213) fun x hx => by
        obtain ⟨z, hz, rfl⟩ := List.mem_map.mp hx
        obtain ⟨d, hd, rfl⟩ := List.mem_map.mp hz
        exact line_len (G.v d hd).1.n12 (G.v d hd).2
      rw [List.length_map, List.length_map] at h1
      rw [List.length_map]
      show _ + es.length * 1 ≤ _
      omega
    · by_cases hb : b = td
      · rw [hb, upd_same, ← G.t, ← hb]
        exact e
      · rw [upd_ne hb]
        exact s1 b o (by rw [← hH0, upd_ne hb]; exact e)
end
end W8

set_option Elab.async false
set_option linter.all false
set_option maxRecDepth 100000
set_option maxHeartbeats 4000000
/-! what is merged, in plain Lean -/
namespace W8
open PySem PySem.Spec PyProof.Rows L2 L2E
def namesE (one other : List Ent) : List (List Nat) := one.map (·.1) ++ (other.filter fun e => (toldE one e.1).isNone).map (·.1)
def pickE (base one other : List Ent) (n : List Nat) : Option (Option (List Nat)) :=
  if toldE one n = toldE other n ∨ toldE other n = toldE base n then some (toldE one n) else if toldE one n = toldE base n then some (toldE other n) else none
def oV : Option (List Nat) → V
  | none => .non
  | some t => .str (S t)
def oneE (n : List Nat) : Option (Option (List Nat)) → Option Ent
  | some (some t) => some (n, t)
  | _ => none
def keptN (base one other : List Ent) (ns : List (List Nat)) : List Ent := ns.filterMap fun n => oneE n (pickE base one other n)
def keptE (base one other : List Ent) : List Ent := keptN base one other (namesE one other)
def clashN (base one other : List Ent) (ns : List (List Nat)) : List (List Nat) := ns.filter fun n => (pickE base one other n).isNone
def clashE (base one other : List Ent) : List (List Nat) := clashN base one other (namesE one other)
abbrev Uniq (es : List Ent) : Prop := (es.map (·.1)).Nodup
theorem oV_inj {a b : Option (List Nat)} : oV a = oV b ↔ a = b := by
  constructor
  · intro h
    cases a <;> cases b <;> try rfl
    · cases h
    · cases h
    · exact congrArg some (S_inj (by injection h))
  · rintro rfl
    rfl
theorem oV_dec (a b : Option (List Nat)) : decide (oV a = oV b) = decide (a = b) := by
  by_cases h : a = b
  · rw [decide_eq_true h, decide_eq_true (oV_inj.mpr h)]
  · rw [decide_eq_false h, decide_eq_false (fun z => h (oV_inj.mp z))]
theorem oV_scal (a b : Option (List Nat)) : scal (oV a) (oV b) = true := by cases a <;> cases b <;> rfl
theorem told_oV (es : List Ent) (n : List Nat) : ((toldE es n).map fun t => V.str (S t)).getD .non = oV (toldE es n) := by cases toldE es n <;> rfl
theorem told_in {es : List Ent} {e : Ent} (h : e ∈ es) : (toldE es e.1).isSome = true := by
  rw [← told_any]
  exact List.any_eq_true.mpr ⟨e, h, decide_eq_true rfl⟩
theorem told_none {es : List Ent} {n : List Nat} (h : toldE es n = none) : n ∉ es.map (·.1) := fun m => by
  obtain ⟨e, he, rfl⟩ := List.mem_map.mp m
  have := told_in he
  rw [h] at this
  cases this
theorem told_not {es : List Ent} {n : List Nat} (h : n ∉ es.map (·.1)) : toldE es n = none := by
  cases hh : toldE es n with
  | none => rfl
  | some t => exact absurd (List.mem_map.mpr ⟨_, told_mem hh, rfl⟩) h
theorem names_nodup {one other : List Ent} (h1 : Uniq one) (h2 : Uniq other) : (namesE one other).Nodup := by
  unfold namesE
  refine List.nodup_append.mpr ⟨h1, ?_, fun a ha b hb e => ?_⟩
  · exact List.Nodup.sublist (List.filter_sublist.map _) h2
  · subst e
    obtain ⟨e, he, rfl⟩ := List.mem_map.mp hb
    have h3 := (List.mem_filter.mp he).2
    obtain ⟨d, hd, e2⟩ := List.mem_map.mp ha
    have h4 := told_in hd
    rw [e2] at h4
    cases hh : toldE one e.1 with
    | none => rw [hh] at h4; cases h4
    | some _ => rw [hh] at h3; cases h3
theorem names_mem {one other : List Ent} {n : List Nat} (h : n ∈ namesE one other) : n ∈ one.map (·.1) ∨ n ∈ other.map (·.1) := by
  rcases List.mem_append.mp h with g | g
  · exact .inl g
  · obtain ⟨e, he, rfl⟩ := List.mem_map.mp g
    exact .inr (List.mem_map.mpr ⟨e, (List.mem_filter.mp he).1, rfl⟩)
theorem kept_snoc (base one other : List Ent) (ns : List (List Nat)) (n : List Nat) : keptN base one other (ns ++ [n]) = keptN base one other ns ++ (match oneE n (pickE base one other n) with | some e => [e] | none => []) := by
  unfold keptN
  rw [List.filterMap_append]
  refine congrArg _ ?_
  rw [List.filterMap_cons]
  split <;> rename_i h <;> rw [h] <;> rfl
theorem kept_names {base one other : List Ent} {ns : List (List Nat)} {e : Ent} (h : e ∈ keptN base one other ns) : e.1 ∈ ns ∧ pickE base one other e.1 = some (some e.2) := by
  unfold keptN at h
  obtain ⟨n, hn, he⟩ := List.mem_filterMap.mp h
  unfold oneE at he
  split at he
  · rename_i t ht
    cases he
    exact ⟨hn, ht⟩
  · cases he
theorem kept_uniq (base one other : List Ent) : ∀ {ns : List (List Nat)}, ns.Nodup → Uniq (keptN base one other ns)
  | [], _ => List.nodup_nil
  | n :: ns, h => by
    rw [List.nodup_cons] at h
    have ih := kept_uniq base one other h.2
    unfold Uniq keptN at *
    rw [List.filterMap_cons]
    split
    · exact ih
    · rename_i e he
      rw [List.map_cons, List.nodup_cons]
      refine ⟨fun m => ?_, ih⟩
      obtain ⟨d, hd, e2⟩ := List.mem_map.mp m
      have h1 := (kept_names (base := base) (one := one) (other := other) hd).1
      have h3 : e.1 = n := by
        unfold oneE at he
        split at he
        · cases he; rfl
        · cases he
      rw [e2, h3] at h1
      exact h.1 h1
theorem pick_some {base one other : List Ent} {n t : List Nat} (h : pickE base one other n = some (some t)) : toldE one n = some t ∨ toldE other n = some t := by
  unfold pickE at h
  split at h
  · exact .inl (by injection h)
  · split at h
    · exact .inr (by injection h)
    · cases h
theorem put_new {es : List Ent} {n t : List Nat} (h : toldE es n = none) : putE es n t = es ++ [(n, t)] := by
  unfold putE
  rw [told_any, h, if_neg (by simp)]
end W8

set_option Elab.async false
set_option linter.all false
set_option maxRecDepth 100000
set_option maxHeartbeats 4000000
namespace W8
open PySem PySem.Spec PyProof.Rows L2 L2E
/-- more classes of errors, and the parts of a book's class -/
structure MgT (P : Program) (K : PySem.W.Frag) (mg : Str → Option Value) (c : Nat → Addr) (fC : Addr) : Prop where
  x : PySem.XM.XmC P K (c 19) (c 19) fC "names"
  mX : mg "ClashError" = some (.ref (c 19))
  mM : mg "MixedLetters" = some (.ref (c 3))
  q : PySem.W.excIn K (c 3) [.type "ValueError", .type "Exception", .type "BaseException", .type "object"] "ValueError.__new__" = true
  kA : PySem.W.keepIn K (.ref (c 3)) = true
  eA : PySem.W.subIn K (.ref (c 3)) (.type "BaseException") = some true
  tA : PySem.W.typeIn K (.ref (c 3)) = some (.type "type")
  list : mg "list" = none
  tuple : mg "tuple" = none
  sorted : mg "sorted" = none
structure BkM (P : Program) (w : World) (K : PySem.W.Frag) (mg : Str → Option Value) (base : Heap) (c : Nat → Addr) (C CP : Addr) : Prop where
  it : ∃ f fd, FnAt P w K mg base CX0 1 f fd ["self"] (spIterD C "texts") ∧ Meth K C "__iter__" f ∧ Binds K fd ["self"] []
  len : MCal P w K mg base C "__len__" 1 ["self"] (spBLen C)
  in_ : MCal P w K mg base C "__contains__" 1 ["self", "name"] (spBIn C)
  set : MCalX P w K mg base C "__setitem__" 8 ["self", "name", "text"] (spBSet c C CP)
  nsq : PySem.W.noSeq K C = true
  new : MkCal P w K mg base C 2 ["self", "letters", "room"] (spBInit C CP)
/-- ClashError(names) -/
def ErrC (E : XK) (C : Addr) (ns : List (List Nat)) (H : Hp) : Prop := ∀ d t H' (ys : List Str), Same H H' → H d = none → H t = none → ys.Perm (ns.map S) → sortedS ys = true → H' t = some (.tup (ys.map V.str)) → H' d = some (.xd [("names", .ref t)]) → E (.ref C) (some d) H'
abbrev sMerged : Stmt := top 56
theorem scMerged : FnScope ["base", "one", "other", "name", "names", "texts", "clashes", "first", "left", "right", "result"] ["base", "one", "other"] (defScope sMerged) := ⟨rfl, rfl, rfl, by decide +kernel, rfl, by decide +kernel, by decide +kernel⟩
/-- a book, wherever its parts are -/
def BookE (H : Hp) (p C CP : Addr) (al : List Nat) (room : Nat) (es : List Ent) : Prop := ∃ dx td pd f1 f2, BookAt H p dx td pd f1 f2 C CP al room es
theorem BookE.mono {H H' : Hp} {p C CP : Addr} {al : List Nat} {room : Nat} {es : List Ent} (h : BookE H p C CP al room es) (s : Same H H') : BookE H' p C CP al room es := by
  obtain ⟨dx, td, pd, f1, f2, G⟩ := h
  exact ⟨dx, td, pd, f1, f2, G.mono s⟩
/-- a book that is new, and whose tables are new -/
def BookN (H0 H : Hp) (p C CP : Addr) (al : List Nat) (room : Nat) (es : List Ent) : Prop := ∃ dx td pd f1 f2, BookAt H p dx td pd f1 f2 C CP al room es ∧ H0 p = none ∧ H0 td = none ∧ H0 pd = none
def spMerged (c : Nat → Addr) (C CP : Addr) : Sp := fun vs H Q E => ∃ (b0 b1 b2 : Addr) (a0 a1 a2 : List Nat) (r0 r1 r2 : Nat) (e0 e1 e2 : List Ent), vs = [.ref b0, .ref b1, .ref b2] ∧ BookE H b0 C CP a0 r0 e0 ∧ BookE H b1 C CP a1 r1 e1 ∧ BookE H b2 C CP a2 r2 e2 ∧ Uniq e1 ∧ Uniq e2 ∧
  (¬ (a1 = a0 ∧ a2 = a0) → E (.ref (c 3)) none H) ∧ (a1 = a0 → a2 = a0 → (clashE e0 e1 e2).length < 64 ∧ (clashE e0 e1 e2 ≠ [] → ErrC E (c 19) (clashE e0 e1 e2) H) ∧ (clashE e0 e1 e2 = [] →
    (100 < (keptE e0 e1 e2).length → ErrF E (c 15) "limit" (.int 100) H) ∧ ((keptE e0 e1 e2).length ≤ 100 → ∀ p H', Same H H' → BookN H H' p C CP a0 100 (keptE e0 e1 e2) → Q (.ref p) H')))
theorem BookAt.read {H : Hp} {p dx td pd f1 f2 C CP : Addr} {al : List Nat} {room : Nat} {es : List Ent} (G : BookAt H p dx td pd f1 f2 C CP al room es) {n t : List Nat} (h : toldE es n = some t) : NameOk n ∧ ∃ rows, readP al t = some (.rows rows) := by
  have hm := told_mem h
  refine ⟨(G.v _ hm).1, ?_⟩
  obtain ⟨kps, _, hk⟩ := G.q
  obtain ⟨i, hi⟩ := List.getElem?_of_mem hm
  have go : ∀ {ks : List (Key × V)} {es : List Ent} {i : Nat}, Paired (PatE H CP al) ks es → es[i]? = some (n, t) → ∃ rows, readP al t = some (.rows rows) := fun {ks} {es} {i} pr h => by
    induction pr generalizing i with
    | nil => cases h
    | cons a b ih =>
      cases i with
      | zero =>
        cases h
        obtain ⟨_, q, rows, _, h2, _⟩ := a
        exact ⟨rows, h2⟩
      | succ j => exact ih (by simpa using h)
  exact go hk hi
theorem lock_same {H H' : Hp} {d : Addr} {u fz : HO} (hd : H d = some u) (s : Same (upd H d fz) H') : Same H (upd H' d u) := fun b o e => by
  by_cases hb : b = d
  · rw [hb, upd_same, ← hd, ← hb]
    exact e
  · rw [upd_ne hb]
    exact s b o (by rw [upd_ne hb]; exact e)
def sgs (ns : List (List Nat)) : List V := ns.map fun n => V.str (S n)
theorem sgs_app (a b : List (List Nat)) : sgs (a ++ b) = sgs a ++ sgs b := List.map_append
theorem tkv_get {es : List Ent} {i : Nat} {k : Key} {v : V} (h : (tkv es)[i]? = some (k, v)) : ∃ e, es[i]? = some e ∧ k = kN e.1 ∧ v = .str (S e.2) := by
  unfold tkv at h
  rw [List.getElem?_map] at h
  cases he : es[i]? with
  | none => rw [he] at h; cases h
  | some e => rw [he] at h; cases h; exact ⟨e, rfl, rfl, rfl⟩
section
variable {P : Program} {w : World} {K : PySem.W.Frag} {mg : Str → Option Value} {base : Heap} {c : Nat → Addr} {fT fN fL fC : Addr}
theorem ok_merged {f C CP : Addr} {fd : FuncData} {t1 : Tok} (F : Fun K "merged_books" "merged_books" sMerged f fd) (T : BkT K mg C) (X : MgT P K mg c fC) (M : BkM P w K mg base c C CP) (XE : BkE P K mg c fT fN fL) (gM : mg "MOST_NAMES" = some (.int 100 t1)) : FnOk P w K mg base (L2N.CX P w) 9 f fd ["base", "one", "other"] (spMerged c C CP) := by
  refine okN F scMerged (fun vs H Q E h => ?_) (fun cdv A outer sh H vs Q E hr h => ?_)
  · obtain ⟨b0, b1, b2, a0, a1, a2, r0, r1, r2, e0, e1, e2, rfl, _⟩ := h
    rfl
  obtain ⟨b0, b1, b2, a0, a1, a2, r0, r1, r2, e0, e1, e2, rfl, ⟨dx0, td0, pd0, f10, f20, G0⟩, ⟨dx1, td1, pd1, f11, f21, G1⟩, ⟨dx2, td2, pd2, f12, f22, G2⟩, u1, u2, eM, q⟩ := h
  obtain ⟨fi, fdi, Fi, mi, bi⟩ := M.it
  obtain ⟨fl, fdl, Fl, ml, bl⟩ := M.len.ex
  obtain ⟨fn, fdn, Fn, mn, bn⟩ := M.in_.ex
  obtain ⟨fs, fds, Fs, ms, bs⟩ := M.set.ex
  obtain ⟨fb, fdb, Fb, mb, bb⟩ := M.new.ex
  have hu := Nat.lt_of_le_of_lt (Nat.add_le_add_left (show 1 ≤ 64 by decide) _) hr.units
  have hr1 := hr.mono (show 1 ≤ 8 by decide)
  have hr3 := hr.mono (show 3 ≤ 8 by decide)
  have hr4 := hr.mono (show 1 + 3 ≤ 8 by decide)
  refine ⟨_, (pss_cons (ps_if (PW.pt (pw_or (pt_cmpR op_ne (pe_fld (pv 1) rfl) (pe_fld (pv 0) rfl) (nomark _)) (pw_or1 (pt_cmpR op_ne (pe_fld (pv 2) rfl) (pe_fld (pv 0) rfl) (nomark _)))))
      (pss_one (L2N.ps_raise rfl (L2N.takes_of rfl rfl rfl rfl) (L2N.pmk_own PySem.F.excBase_ValueError X.q X.mM X.kA (raises_own X.eA X.tA) rfl)))
      pss_nil)
    (pss_cons (ps_set (i := 4) scMerged.nd rfl (Or.inl rfl) (pe_op op_cat (pe_lock (pT1 (call_listOwnD rfl Fi mi bi Fl ml bl hr4) X.list (pv 1))) (pe_lock (pe_lc (own := [("name", 3)]) (g := gName 3) rfl scMerged.nd (pi_ownD (pv 2) Fi mi bi hr1) (blkOk_by (own := [("name", 3)]) (N := ["base", "one", "other", "name", "names", "texts", "clashes", "first", "left", "right", "result"]) (sc := defScope sMerged) (by decide +kernel)) (fun _ _ _ _ _ => (pg_name (i := 3) scMerged.nd rfl (Or.inl rfl))) (fun _ _ _ _ _ => (pts_one (pt_cmpR (op_notIn_own (sp := spBIn C) (E := E0) Fn mn bn pass0 hr1) (pv 3) (pv 1) rfl))) (fun _ _ _ _ _ => (pv 3))))))
    (pss_cons (ps_set (i := 5) scMerged.nd rfl (Or.inl rfl) pe_dnewK)
    (pss_cons (ps_set (i := 6) scMerged.nd rfl (Or.inl rfl) (pe_lst pa_nil))
    (pss_cons (ps_for PassesOwn.leaving rfl (pi_list (pv 4)) (pg_name (i := 3) scMerged.nd rfl (Or.inl rfl))
      (pss_cons (ps_set (i := 7) scMerged.nd rfl (Or.inl rfl) (pe_dget1 hu (pe_fld (pv 0) rfl) (pv 3) ⟨rfl, rfl, rfl, rfl⟩))
      (pss_cons (ps_set (i := 8) scMerged.nd rfl (Or.inl rfl) (pe_dget1 hu (pe_fld (pv 1) rfl) (pv 3) ⟨rfl, rfl, rfl, rfl⟩))
      (pss_cons (ps_set (i := 9) scMerged.nd rfl (Or.inl rfl) (pe_dget1 hu (pe_fld (pv 2) rfl) (pv 3) ⟨rfl, rfl, rfl, rfl⟩))
      (pss_one (ps_if (PW.pt (pw_or (pt_cmpR op_eq (pv 8) (pv 9) (nomark _)) (pw_or1 (pt_cmpR op_eq (pv 9) (pv 7) (nomark _)))))
        (pss_one (ps_dput hu (pv 5) (pv 3) (pv 8) rfl))
        (pss_one (ps_if (pt_cmpR op_eq (pv 8) (pv 7) (nomark _))
          (pss_one (ps_dput hu (pv 5) (pv 3) (pv 9) rfl))
          (pss_one (ps_expr (pe_bm PySem.F.plainAttrs_list PySem.F.slot_list_append PySem.F.type_list_append mt_append (pv 6) (pa_cons (pv 3) pa_nil))))))))))))
    (pss_cons (ps_if (pt_truth (pv 6) (by intro _; rfl))
      (pss_one (L2N.ps_raise rfl (L2N.takes_of rfl rfl rfl rfl) (L2N.pmk_xm X.x hr X.mX XE.sup (pa_cons (pT1 call_tuple_of X.tuple (pB1 cr_sortedS X.sorted (pv 6))) pa_nil))))
      pss_nil)
    (pss_cons (ps_set (i := 10) scMerged.nd rfl (Or.inl rfl) (pe_make mb Fb hr3 (by rfl) T.mgC bb .nil pass0 (pa_cons (pe_fld (pv 0) rfl) (pa_cons (pe_glob (v := .int 100) rfl gM ⟨_, rfl⟩) pa_nil))))
    (pss_cons (ps_for PassesOwn.leaving rfl (pi_list (pv 4)) (pg_name (i := 3) scMerged.nd rfl (Or.inl rfl))
      (pss_one (ps_if (pt_cmpR op_notN (pe_dget hu (pv 5) (pv 3) (fun _ _ => rfl)) pe_non (nomark _))
        (pss_one (ps_asg (pe_dget hu (pv 5) (pv 3) (fun _ _ => rfl)) (pg_sub (pv 10) (pv 3) (set_own (E := E) Fs ms M.nsq bs (L2N.passes_call (L2N.takes_of rfl rfl rfl rfl) (fun _ _ _ _ h => h)) hr))))
        pss_nil)))
    (pss_one (ps_ret (pv 10))))))))))), ?_⟩
  have l0 : e0.length ≤ 100 := Nat.le_trans G0.l G0.r
  have l1 : e1.length ≤ 100 := Nat.le_trans G1.l G1.r
  have l2 : e2.length ≤ 100 := Nat.le_trans G2.l G2.r
  refine ⟨_, rfl, b1, C, dx1, _, _, rfl, G1.o, T.cl, T.nL, bk_letters _ _ _ _ _ _, _, rfl, b0, C, dx0, _, _, rfl, G0.o, T.cl, T.nL, bk_letters _ _ _ _ _ _, rfl, _, rfl, ?_⟩
  refine ite2 (fun h1 => ?_) (fun h1 => ?_)
  · refine ite2 (fun _ => ?_) (fun z => absurd rfl z)
    exact eM fun z => decF h1 (by rw [z.1])
  have ea1 : a1 = a0 := S_inj (by have := decT h1; injection this)
  refine ⟨_, rfl, b2, C, dx2, _, _, rfl, G2.o, T.cl, T.nL, bk_letters _ _ _ _ _ _, _, rfl, b0, C, dx0, _, _, rfl, G0.o, T.cl, T.nL, bk_letters _ _ _ _ _ _, rfl, _, rfl, ?_⟩
  refine ite2 (fun h2 => ?_) (fun h2 => ?_)
  · exact eM fun z => decF h2 (by rw [z.2])
  have ea2 : a2 = a0 := S_inj (by have := decT h2; injection this)
  obtain ⟨h64, eC, q⟩ := q ea1 ea2
  subst ea1
  subst ea2
  clear eM h1 h2
  -- names
  have n1t : b1 ≠ td1 := ne_of G1.o G1.t (fun z => nomatch z)
  refine ⟨td1, _, G1.t, trivial, fun od1 => ⟨_, rfl, b1, dx1, _, td1, od1, tkv e1, rfl, by rw [upd_ne n1t]; exact G1.o, bk_texts _ _ _ _ _ _, upd_same, sz (by rw [tkv_len]; omega), fun H' hH' => ?_, fun l hl => ⟨?_, ?_⟩⟩⟩
  · exact ⟨b1, dx1, td1, pd1, f11, f21, a2, r1, e1, rfl, ⟨hH' _ _ (by rw [upd_ne n1t]; exact G1.o), .inr ⟨od1, hH' _ _ upd_same⟩⟩, e1.length, rfl, sz (by omega), rfl⟩
  · rw [upd_ne (ne_of_none upd_same hl)]
    exact upd_same
  have s1 : Same H (upd (upd (upd H td1 (.frz od1 (.dK (tkv e1)))) l (.lst ((tkv e1).map fun kv => kV kv.1))) td1 (.dK (tkv e1))) := lock_same G1.t (same_new hl _)
  have hl1 : upd (upd (upd H td1 (.frz od1 (.dK (tkv e1)))) l (.lst ((tkv e1).map fun kv => kV kv.1))) td1 (.dK (tkv e1)) l = some (.lst (sgs (e1.map (·.1)))) := by
    rw [upd_ne (Ne.symm (ne_of_none upd_same hl)), upd_same]
    unfold tkv sgs
    rw [List.map_map, List.map_map]
    rfl
  have hl0 : H l = none := by
    have : l ≠ td1 := Ne.symm (ne_of_none upd_same hl)
    rw [upd_ne this] at hl
    exact hl
  generalize upd (upd (upd H td1 (.frz od1 (.dK (tkv e1)))) l (.lst ((tkv e1).map fun kv => kV kv.1))) td1 (.dK (tkv e1)) = H1 at *
  have G11 := G1.mono s1
  have G21 := G2.mono s1
  have n2t : b2 ≠ td2 := ne_of G2.o G2.t (fun z => nomatch z)
  have n1t2 : b1 ≠ td2 := ne_of G1.o G2.t (fun z => nomatch z)
  refine ⟨td2, _, G21.t, trivial, fun od2 => ⟨_, rfl, b2, dx2, _, td2, od2, tkv e2, rfl, by rw [upd_ne n2t]; exact G21.o, bk_texts _ _ _ _ _ _, upd_same, fun L hL => ?_⟩⟩
  have hb1 : upd H1 td2 (.frz od2 (.dK (tkv e2))) b1 = some (.ins C dx1 (bkf (.str (S a2)) (.ref td1) (.ref pd1) (.ref f11) (.ref f21) (.int (r1 : Int)))) := by rw [upd_ne n1t2]; exact G11.o
  have ht1 : Rd (upd H1 td2 (.frz od2 (.dK (tkv e2)))) td1 (.dK (tkv e1)) := by
    by_cases hb : td1 = td2
    · rw [← hb]
      have : tkv e1 = tkv e2 := by
        have h1 := G1.t
        rw [hb, G2.t] at h1
        injection h1 with h1
        injection h1 with h1
        exact h1.symm
      exact .inr ⟨od2, by rw [upd_same, this]⟩
    · exact .inl (by rw [upd_ne hb]; exact G11.t)
  have ht2 : upd H1 td2 (.frz od2 (.dK (tkv e2))) td2 = some (.frz od2 (.dK (tkv e2))) := upd_same
  have hl2 : upd H1 td2 (.frz od2 (.dK (tkv e2))) l = some (.lst (sgs (e1.map (·.1)))) := by rw [upd_ne (ne_of hl1 G21.t (fun z => nomatch z))]; exact hl1
  generalize hH2 : upd H1 td2 (.frz od2 (.dK (tkv e2))) = H2 at *
  refine L2.lc_it L2.walk_keys (fun i H' => Same H2 H' ∧ H' L = some (.lst (sgs (((e2.take i).filter fun e => (toldE e1 e.1).isNone).map (·.1))))) ⟨same_new hL _, upd_same⟩ (fun _ _ _ ⟨s, _⟩ => s _ _ ht2) ?_ ?_
  · rintro i x H3 H4 hi ⟨s3, hL3⟩ ⟨rfl, k, v, hk, rfl⟩
    obtain ⟨e, he, rfl, rfl⟩ := tkv_get hk
    refine ⟨rfl, _, rfl, _, rfl, b1, dx1, _, rfl, s3 _ _ hb1, b1, dx1, td1, pd1, f11, f21, a2, r1, e1, e.1, rfl, ⟨s3 _ _ hb1, ?_⟩, _, rfl, _, rfl, ?_⟩
    · rcases ht1 with z | ⟨o, z⟩
      · exact .inl (s3 _ _ z)
      · exact .inr ⟨o, s3 _ _ z⟩
    have hlen : (((e2.take i).filter fun e => (toldE e1 e.1).isNone).map (·.1)).length < 100000 := by
      rw [List.length_map]
      have := List.length_filter_le (fun e : Ent => (toldE e1 e.1).isNone) (e2.take i)
      rw [List.length_take] at this
      omega
    refine ite2 (fun h => ?_) (fun h => ?_)
    · refine ⟨_, rfl, _, hL3, small_lt (by unfold sgs; rw [List.length_map]; exact hlen), same_upd s3 hL, ?_⟩
      have hn : (toldE e1 e.1).isNone = true := by
        cases hh : toldE e1 e.1 with
        | none => rfl
        | some _ => rw [hh] at h; cases h
      rw [upd_same, List.take_add_one, he, List.filter_append, List.map_append, sgs_app]
      show _ = some (HO.lst (_ ++ sgs (List.map _ (List.filter _ [e]))))
      rw [List.filter_cons, if_pos hn]
      rfl
    · refine ⟨s3, ?_⟩
      have hn : ¬ (toldE e1 e.1).isNone = true := fun z => by
        cases hh : toldE e1 e.1 with
        | none => rw [hh] at h; exact h rfl
        | some _ => rw [hh] at z; cases z
      rw [hL3, List.take_add_one, he, List.filter_append, List.map_append, sgs_app]
      show _ = some (HO.lst (_ ++ sgs (List.map _ (List.filter _ [e]))))
      rw [List.filter_cons, if_neg hn]
      show _ = some (HO.lst (_ ++ []))
      rw [List.append_nil]
  rintro H3 ⟨s3, hL3⟩
  rw [tkv_len, List.take_length] at hL3
  refine ⟨s3 _ _ ht2, ?_⟩
  have s4 : Same H1 (upd H3 td2 (.dK (tkv e2))) := lock_same G21.t (by rw [hH2]; exact s3)
  have hL4 : upd H3 td2 (.dK (tkv e2)) L = some (.lst (sgs ((e2.filter fun e => (toldE e1 e.1).isNone).map (·.1)))) := by rw [upd_ne (ne_of hL3 (s3 _ _ ht2) (fun z => nomatch z))]; exact hL3
  have s5 := s1.trans s4
  have hl4 := s4 _ _ hl1
  generalize upd H3 td2 (.dK (tkv e2)) = H4 at *
  clear s3 hL3 hL ht1 ht2 hl2 hb1 hH2 hl s4 hl1
  refine ⟨l, L, _, _, rfl, rfl, hl4, hL4, ?_, fun N hN => ?_⟩
  · unfold sgs
    rw [List.length_map, List.length_map, List.length_map, List.length_map]
    have := List.length_filter_le (fun e : Ent => (toldE e1 e.1).isNone) e2
    exact sz (by omega)
  rw [← sgs_app]
  have s6 := s5.trans (same_new hN (.lst (sgs (namesE e1 e2))))
  have hN6 : upd H4 N (.lst (sgs (namesE e1 e2))) N = some (.lst (sgs (namesE e1 e2))) := upd_same
  replace hN6 : upd H4 N (.lst (sgs (e1.map (·.1) ++ (e2.filter fun e => (toldE e1 e.1).isNone).map (·.1)))) N = some (.lst (sgs (namesE e1 e2))) := hN6
  replace s6 : Same H (upd H4 N (.lst (sgs (e1.map (·.1) ++ (e2.filter fun e => (toldE e1 e.1).isNone).map (·.1))))) := s6
  generalize upd H4 N (.lst (sgs (e1.map (·.1) ++ (e2.filter fun e => (toldE e1 e.1).isNone).map (·.1)))) = H5 at *
  clear s5 hl4 hL4 hN
  have hnd : (namesE e1 e2).Nodup := names_nodup u1 u2
  have hnl : (namesE e1 e2).length ≤ 200 := by
    unfold namesE
    rw [List.length_append, List.length_map, List.length_map]
    have := List.length_filter_le (fun e : Ent => (toldE e1 e.1).isNone) e2
    omega
  have hsl : (sgs (namesE e1 e2)).length = (namesE e1 e2).length := by unfold sgs; rw [List.length_map]
  -- texts, clashes
  refine fun d hd => ⟨Nat.zero_le _, fun cl hcl => ?_⟩
  have s7 : Same H5 (upd (upd H5 d (.dK [])) cl (.lst [])) := (same_new hd _).trans (same_new hcl _)
  have hd7 : upd (upd H5 d (.dK [])) cl (.lst []) d = some (.dK []) := by rw [upd_ne (ne_of_none upd_same hcl)]; exact upd_same
  have hcl7 : upd (upd H5 d (.dK [])) cl (.lst []) cl = some (.lst []) := upd_same
  have hd0 : H5 d = none := hd
  have hcl0 : H5 cl = none := (same_new hd (.dK [])).free hcl
  generalize upd (upd H5 d (.dK [])) cl (.lst []) = H7 at *
  clear hd hcl
  refine ⟨_, rfl, N, rfl, ⟨_, SqL.of (s7 _ _ hN6)⟩, ?_⟩
  refine L2.for_it (L2.walk_list (xs := sgs (namesE e1 e2))) (fun i σ H' => ∃ (x y7 y8 y9 : Option V) (kvs : List (Key × V)), σ = [some (.ref b0), some (.ref b1), some (.ref b2), x, some (.ref N), some (.ref d), some (.ref cl), y7, y8, y9, none] ∧ Same H5 H' ∧ H' d = some (.dK kvs) ∧ kvs.length ≤ i ∧
      (∀ n ∈ (namesE e1 e2).take i, ∀ v, pickE e0 e1 e2 n = some v → valV kvs (kN n) = some (oV v)) ∧ H' cl = some (.lst (sgs (clashN e0 e1 e2 ((namesE e1 e2).take i)))))
    ⟨none, none, none, none, [], rfl, s7, hd7, Nat.le_refl _, (fun n h => nomatch h), hcl7⟩ (fun _ _ _ _ ⟨_, _, _, _, _, _, s, _⟩ => SqL.of (s _ _ hN6)) ?_ ?_
  · rintro i x σ H8 H9 hi ⟨x1, y7, y8, y9, kvs, rfl, s8, hd8, hk8, hv8, hc8⟩ ⟨rfl, hx⟩
    replace hx : (sgs (namesE e1 e2))[i]? = some x := hx
    unfold sgs at hx
    rw [List.getElem?_map] at hx
    cases hn : (namesE e1 e2)[i]? with
    | none => rw [hn] at hx; cases hx
    | some n =>
      rw [hn] at hx
      cases hx
      have hi2 : i < 200 := by have := (List.getElem?_eq_some_iff.mp hn).1; omega
      have htk : (namesE e1 e2).take (i + 1) = (namesE e1 e2).take i ++ [n] := by rw [List.take_add_one, hn]; rfl
      have ss := s6.trans s8
      have A0 := G0.mono ss
      have A1 := G1.mono ss
      have A2 := G2.mono ss
      refine ⟨_, rfl, b0, C, dx0, _, _, rfl, A0.o, T.cl, T.nT, bk_texts _ _ _ _ _ _, td0, rfl, .inl ⟨_, .inl A0.t⟩, _, rfl, _, DGet.tkv (.inl A0.t), ?_⟩
      rw [told_oV]
      refine ⟨_, rfl, b1, C, dx1, _, _, rfl, A1.o, T.cl, T.nT, bk_texts _ _ _ _ _ _, td1, rfl, .inl ⟨_, .inl A1.t⟩, _, rfl, _, DGet.tkv (.inl A1.t), ?_⟩
      rw [told_oV]
      refine ⟨_, rfl, b2, C, dx2, _, _, rfl, A2.o, T.cl, T.nT, bk_texts _ _ _ _ _ _, td2, rfl, .inl ⟨_, .inl A2.t⟩, _, rfl, _, DGet.tkv (.inl A2.t), ?_⟩
      rw [told_oV]
      have hcn : clashN e0 e1 e2 ((namesE e1 e2).take (i + 1)) = clashN e0 e1 e2 ((namesE e1 e2).take i) ++ if (pickE e0 e1 e2 n).isNone = true then [n] else [] := by
        rw [htk]
        unfold clashN
        rw [List.filter_append, List.filter_cons]
        rfl
      have put : ∀ v, pickE e0 e1 e2 n = some v → ∀ y7 y8 y9 : Option V, ∀ R : L2.St → Hp → Prop, (∀ σ' H', (∃ (x y7 y8 y9 : Option V) (kvs : List (Key × V)), σ' = [some (.ref b0), some (.ref b1), some (.ref b2), x, some (.ref N), some (.ref d), some (.ref cl), y7, y8, y9, none] ∧ Same H5 H' ∧ H' d = some (.dK kvs) ∧ kvs.length ≤ i + 1 ∧
          (∀ n ∈ (namesE e1 e2).take (i + 1), ∀ v, pickE e0 e1 e2 n = some v → valV kvs (kN n) = some (oV v)) ∧ H' cl = some (.lst (sgs (clashN e0 e1 e2 ((namesE e1 e2).take (i + 1)))))) → R σ' H') →
          ∃ H4, DPut H9 d (.str (S n)) (oV v) H4 ∧ R [some (.ref b0), some (.ref b1), some (.ref b2), some (.str (S n)), some (.ref N), some (.ref d), some (.ref cl), y7, y8, y9, none] H4 := fun v hv y7 y8 y9 R k => by
        refine ⟨_, DPut.k (k := kN n) hd8 (small_lt (by omega)), k _ _ ⟨_, _, _, _, putK kvs (kN n) (oV v), rfl, ?_, upd_same, ?_, ?_, ?_⟩⟩
        · exact fun b o e => by rw [upd_ne (ne_of_none e hd0)]; exact s8 b o e
        · have := DSub.putK_len kvs (kN n) (oV v)
          omega
        · intro m hm v' hv'
          rw [valV_put]
          by_cases hmn : m = n
          · subst hmn
            rw [hv] at hv'
            cases hv'
            rw [if_pos rfl]
          · rw [if_neg (fun z => hmn (kN_inj.mp z))]
            rw [htk] at hm
            rcases List.mem_append.mp hm with g | g
            · exact hv8 m g v' hv'
            · exact absurd (List.mem_singleton.mp g) hmn
        · rw [hcn, hv]
          show upd H9 d _ cl = some (.lst (sgs (_ ++ [])))
          rw [List.append_nil, upd_ne (ne_of hc8 hd8 (fun z => nomatch z))]
          exact hc8
      have putL := put (toldE e1 n)
      have putR := put (toldE e2 n)
      refine ⟨_, rfl, _, rfl, oV_scal _ _, _, rfl, ?_⟩
      rw [oV_dec]
      refine ite2 (fun h1 => ?_) (fun h1 => ?_)
      · refine ite2 (fun _ => ?_) (fun z => absurd rfl z)
        have hp : pickE e0 e1 e2 n = some (toldE e1 n) := by unfold pickE; rw [if_pos (.inl (of_decide_eq_true h1))]
        obtain ⟨H4, hp1, hp2⟩ := putL hp _ _ _ _ fun σ' H' h => h
        exact ⟨_, rfl, _, rfl, _, rfl, d, H4, rfl, hp1, hp2⟩
      refine ⟨_, rfl, _, rfl, oV_scal _ _, _, rfl, ?_⟩
      rw [oV_dec]
      refine ite2 (fun h2 => ?_) (fun h2 => ?_)
      · have hp : pickE e0 e1 e2 n = some (toldE e1 n) := by unfold pickE; rw [if_pos (.inr (of_decide_eq_true h2))]
        obtain ⟨H4, hp1, hp2⟩ := putL hp _ _ _ _ fun σ' H' h => h
        exact ⟨_, rfl, _, rfl, _, rfl, d, H4, rfl, hp1, hp2⟩
      have hno : ¬ (toldE e1 n = toldE e2 n ∨ toldE e2 n = toldE e0 n) := fun z => z.elim (fun y => h1 (decide_eq_true y)) (fun y => h2 (decide_eq_true y))
      refine ⟨_, rfl, _, rfl, oV_scal _ _, _, rfl, ?_⟩
      rw [oV_dec]
      refine ite2 (fun h3 => ?_) (fun h3 => ?_)
      · have hp : pickE e0 e1 e2 n = some (toldE e2 n) := by unfold pickE; rw [if_neg hno, if_pos (of_decide_eq_true h3)]
        obtain ⟨H4, hp1, hp2⟩ := putR hp _ _ _ _ fun σ' H' h => h
        exact ⟨_, rfl, _, rfl, _, rfl, d, H4, rfl, hp1, hp2⟩
      have hp : pickE e0 e1 e2 n = none := by unfold pickE; rw [if_neg hno, if_neg (fun y => h3 (decide_eq_true y))]
      have hcl9 : (sgs (clashN e0 e1 e2 ((namesE e1 e2).take i))).length ≤ 200 := by
        unfold sgs clashN
        rw [List.length_map]
        have := List.length_filter_le (fun n => (pickE e0 e1 e2 n).isNone) ((namesE e1 e2).take i)
        rw [List.length_take] at this
        omega
      refine ⟨_, rfl, .inl ⟨rfl, _, SqL.of hc8⟩, _, rfl, cl, _, _, rfl, rfl, hc8, small_lt (by omega), _, _, _, _, kvs, rfl, ?_, ?_, by omega, ?_, ?_⟩
      · exact fun b o e => by rw [upd_ne (ne_of_none e hcl0)]; exact s8 b o e
      · rw [upd_ne (ne_of hd8 hc8 (fun z => nomatch z))]; exact hd8
      · intro m hm v' hv'
        rw [htk] at hm
        rcases List.mem_append.mp hm with g | g
        · exact hv8 m g v' hv'
        · rw [List.mem_singleton.mp g, hp] at hv'
          cases hv'
      · rw [upd_same, hcn, hp, sgs_app]
        rfl
  · rintro σ H8 ⟨x1, y7, y8, y9, kvs, rfl, s8, hd8, hk8, hv8, hc8⟩
    rw [hsl, List.take_length] at hv8 hc8
    refine ⟨_, rfl, _, .inl ⟨_, SqL.of hc8, rfl⟩, ?_⟩
    have ss := s6.trans s8
    have hcE : clashN e0 e1 e2 (namesE e1 e2) = clashE e0 e1 e2 := rfl
    rw [hcE] at hc8 ⊢
    refine ite2 (fun h1 => ?_) (fun h1 => ?_)
    · have hne : clashE e0 e1 e2 ≠ [] := fun z => by rw [z] at h1; cases h1
      have e9 : sgs (clashE e0 e1 e2) = ((clashE e0 e1 e2).map S).map V.str := by unfold sgs; rw [List.map_map]; rfl
      rw [e9] at hc8
      refine ⟨_, rfl, cl, (clashE e0 e1 e2).map S, rfl, SqL.of hc8, by rw [List.length_map]; exact h64, fun ys p' perm srt hp' => ⟨p', _, rfl, .inl ⟨SqL.of upd_same, fun tt htt => ⟨_, rfl, fun dd hdd => ?_⟩⟩⟩⟩
      have sa := ss.trans ((same_new hp' (.lst (ys.map V.str))).trans (same_new htt (.tup (ys.map V.str))))
      have sb := sa.trans (same_new hdd (.xd [("names", .ref tt)]))
      refine eC hne dd tt _ ys sb (sa.free hdd) ((ss.trans (same_new hp' (.lst (ys.map V.str)))).free htt) perm srt ?_ upd_same
      rw [upd_ne (ne_of_none upd_same hdd)]
      exact upd_same
    have he : clashE e0 e1 e2 = [] := by
      cases hh : clashE e0 e1 e2 with
      | nil => rfl
      | cons a b => rw [hh] at h1; exact absurd rfl h1
    obtain ⟨eL, q⟩ := q he
    have A0 := G0.mono ss
    refine ⟨_, rfl, b0, C, dx0, _, _, rfl, A0.o, T.cl, T.nL, bk_letters _ _ _ _ _ _, fun p dx hp hdx hne => ?_⟩
    have sb : Same H8 (upd (upd H8 dx (.own p)) p (.ins C dx [])) := (same_new hdx (.own p)).trans (same_new (by rw [upd_ne (Ne.symm hne)]; exact hp) _)
    refine ⟨p, dx, a2, 100, rfl, upd_same, G0.A, Nat.le_refl _, fun H9 td pd f1 f2 bt nt np B => ⟨rfl, ?_⟩⟩
    have nt := sb.free nt
    have np := sb.free np
    have s9 : Same H8 H9 := fun b o e => bt b o (fun z => by rw [z, hp] at e; cases e) (sb b o e)
    clear bt sb
    have hN8 := s8 _ _ hN6
    refine ⟨_, rfl, N, rfl, ⟨_, SqL.of (s9 _ _ hN8)⟩, ?_⟩
    refine L2.for_it (L2.walk_list (xs := sgs (namesE e1 e2))) (fun i σ H' => ∃ (x y7 y8 y9 : Option V), σ = [some (.ref b0), some (.ref b1), some (.ref b2), x, some (.ref N), some (.ref d), some (.ref cl), y7, y8, y9, some (.ref p)] ∧ Same H8 H' ∧
        BookAt H' p dx td pd f1 f2 C CP a2 100 (keptN e0 e1 e2 ((namesE e1 e2).take i)))
      ⟨_, _, _, _, rfl, s9, B⟩ (fun _ _ _ _ ⟨_, _, _, _, _, s, _⟩ => SqL.of (s _ _ hN8)) ?_ ?_
    · rintro i x σ H10 H11 hi ⟨x2, z7, z8, z9, rfl, s10, B10⟩ ⟨rfl, hx⟩
      replace hx : (sgs (namesE e1 e2))[i]? = some x := hx
      unfold sgs at hx
      rw [List.getElem?_map] at hx
      cases hn : (namesE e1 e2)[i]? with
      | none => rw [hn] at hx; cases hx
      | some n =>
        rw [hn] at hx
        cases hx
        have hm : n ∈ namesE e1 e2 := List.mem_of_getElem? hn
        have htk : (namesE e1 e2).take (i + 1) = (namesE e1 e2).take i ++ [n] := by rw [List.take_add_one, hn]; rfl
        have hsplit : namesE e1 e2 = (namesE e1 e2).take i ++ n :: (namesE e1 e2).drop (i + 1) := by
          obtain ⟨g1, g2⟩ := List.getElem?_eq_some_iff.mp hn
          rw [← g2, ← List.drop_eq_getElem_cons g1, List.take_append_drop]
        have hnt : n ∉ (namesE e1 e2).take i := fun z => by
          rw [hsplit] at hnd
          exact (List.nodup_append.mp hnd).2.2 n z n List.mem_cons_self rfl
        obtain ⟨v, hv⟩ : ∃ v, pickE e0 e1 e2 n = some v := by
          cases hh : pickE e0 e1 e2 n with
          | some v => exact ⟨v, rfl⟩
          | none =>
            have : n ∈ clashE e0 e1 e2 := List.mem_filter.mpr ⟨hm, by rw [hh]; rfl⟩
            rw [he] at this
            cases this
        have hget : DGet H11 d (.str (S n)) (some (oV v)) := .inl ⟨kvs, kN n, .inl (s10 _ _ hd8), rfl, (hv8 n hm v hv).symm⟩
        refine ⟨_, rfl, _, rfl, d, _, rfl, hget, rfl, _, rfl, ?_⟩
        cases v with
        | none =>
          refine ite2 (fun z => (by cases z)) (fun _ => ?_)
          refine ⟨_, _, _, _, rfl, s10, ?_⟩
          rw [htk, kept_snoc, hv]
          show BookAt _ p dx td pd f1 f2 C CP a2 100 (_ ++ [])
          rw [List.append_nil]
          exact B10
        | some t =>
          refine ite2 (fun _ => ?_) (fun z => absurd rfl z)
          have hks : keptN e0 e1 e2 ((namesE e1 e2).take (i + 1)) = keptN e0 e1 e2 ((namesE e1 e2).take i) ++ [(n, t)] := by rw [htk, kept_snoc, hv]; rfl
          have hrd : NameOk n ∧ ∃ rows, readP a2 t = some (.rows rows) := by
            rcases pick_some hv with z | z
            · exact G1.read z
            · exact G2.read z
          obtain ⟨hok, rows, hrow⟩ := hrd
          have ht200 := readP_len hrow
          have hn12 := hok.n12
          have hnone : toldE (keptN e0 e1 e2 ((namesE e1 e2).take i)) n = none := told_not fun z => by
            obtain ⟨e, hke, e2'⟩ := List.mem_map.mp z
            have := (kept_names hke).1
            rw [e2'] at this
            exact hnt this
          refine ⟨_, rfl, _, rfl, d, _, rfl, hget, _, rfl, _, rfl, p, dx, _, rfl, B10.o, p, dx, td, pd, f1, f2, a2, 100, _, n, t, _, rfl, B10, by omega, by omega, hrow, fun z => absurd hok z, fun _ => ⟨fun i h => (nomatch h), fun h => (nomatch h), fun rows' hr' => ⟨fun _ h100 => (eL ?_).mono (ss.trans s10), fun _ H12 k12 B12 => ⟨_, _, _, _, rfl, k12.same s10 nt np, ?_⟩⟩⟩⟩
          · show 100 < (keptN e0 e1 e2 (namesE e1 e2)).length
            rw [hsplit]
            unfold keptN at h100 ⊢
            rw [List.filterMap_append, List.length_append, h100, List.filterMap_cons, hv]
            show 100 < 100 + (List.length _ + 1)
            omega
          · rw [hks, ← put_new hnone]
            exact B12
    · rintro σ H10 ⟨x2, z7, z8, z9, rfl, s10, B10⟩
      rw [hsl, List.take_length] at B10
      exact ⟨_, rfl, q B10.l p H10 (ss.trans s10) ⟨dx, td, pd, f1, f2, B10, ss.free hp, ss.free nt, ss.free np⟩⟩
end
end W8

set_option Elab.async false
set_option linter.all false
set_option maxRecDepth 100000
set_option maxHeartbeats 4000000
namespace W8
open PySem PySem.Spec PyProof.Rows L2 L2E
def prow (e : Ent) : Row := [.str (S e.1), .str (S e.2)]
def Prs (H : Hp) (l : Addr) (es : List Ent) : Prop := ∃ ts : List Addr, H l = some (.lst (ts.map V.ref)) ∧ Paired (fun (t : Addr) (e : Ent) => H t = some (.tup (prow e))) ts es
theorem Prs.mono {H H' : Hp} {l : Addr} {es : List Ent} (h : Prs H l es) (s : Same H H') : Prs H' l es := by
  obtain ⟨ts, a, b⟩ := h
  exact ⟨ts, s _ _ a, Paired.mapP b fun _ _ z => s _ _ z⟩
theorem prs_get {H : Hp} {ts : List Addr} {es : List Ent} {i : Nat} {x : V} (h : Paired (fun (t : Addr) (e : Ent) => H t = some (.tup (prow e))) ts es) (hx : (ts.map V.ref)[i]? = some x) : ∃ t e, x = .ref t ∧ ts[i]? = some t ∧ es[i]? = some e ∧ H t = some (.tup (prow e)) := by
  rw [List.getElem?_map] at hx
  cases ht : ts[i]? with
  | none => rw [ht] at hx; cases hx
  | some t =>
    rw [ht] at hx
    cases hx
    obtain ⟨e, he, hat⟩ := L2.paired_get h ht
    exact ⟨t, e, rfl, rfl, he, hat⟩
theorem at1 (x y : V) (xs : List V) : atI (x :: y :: xs) 1 = some y := by
  unfold atI ixN
  rw [if_pos (by omega), if_pos (by rw [List.length_cons, List.length_cons]; omega)]
  rfl
def rAddS : R2 := fun x y H Q => ∃ i j, x = .str i ∧ y = .str j ∧ i.length + j.length ≤ sizeLine ∧ Q (.str (i ++ j)) H
theorem op_addS {X : Cx} : OpR X (binaryOp .Add) rAddS := op_add_str
/-- pair[0], pair[1] of the i-th name, within a comprehension too -/
abbrev tIx (K : PySem.W.Frag) (i : Nat) (j : Int) : TE := tOp (rIxT K) (tVar i) (tC (.int j))
abbrev sBook : Stmt := top 63
theorem scBook : FnScope ["letters", "pairs", "room", "book", "pair"] ["letters", "pairs", "room"] (defScope sBook) := ⟨rfl, rfl, rfl, by decide +kernel, rfl, by decide +kernel, by decide +kernel⟩
/-- names and texts that a book takes -/
structure EntsOk (al : List Nat) (es : List Ent) : Prop where
  u : Uniq es
  v : ∀ e ∈ es, NameOk e.1 ∧ ∃ rows, readP al e.2 = some (.rows rows)
def spBook (C CP : Addr) : Sp := fun vs H Q _ => ∃ (l : Addr) (al : List Nat) (room : Nat) (es : List Ent), vs = [.str (S al), .ref l, .int (room : Int)] ∧ AlphOk al ∧ Prs H l es ∧ EntsOk al es ∧ es.length ≤ room ∧ room ≤ 100 ∧ ∀ p H', Same H H' → BookN H H' p C CP al room es → Q (.ref p) H'
abbrev sLines : Stmt := top 64
theorem scLines : FnScope ["pairs", "pair"] ["pairs"] (defScope sLines) := ⟨rfl, rfl, rfl, by decide +kernel, rfl, by decide +kernel, by decide +kernel⟩
def spLines : Sp := fun vs H Q _ => ∃ (l : Addr) (es : List Ent), vs = [.ref l] ∧ Prs H l es ∧ es.length ≤ 200 ∧ (∀ e ∈ es, e.1.length ≤ 12 ∧ e.2.length ≤ 200) ∧ ∀ H', Same H H' → Q (.str (Txt.join "\n" (es.map lineE))) H'
abbrev sTold : Stmt := top 66
theorem scTold : FnScope ["pairs", "name", "pair"] ["pairs", "name"] (defScope sTold) := ⟨rfl, rfl, rfl, by decide +kernel, rfl, by decide +kernel, by decide +kernel⟩
def spTold : Sp := fun vs H Q _ => ∃ (l : Addr) (es : List Ent) (n : List Nat), vs = [.ref l, .str (S n)] ∧ Prs H l es ∧ Q (oV (toldE es n)) H
def changeE (es : List Ent) (n : List Nat) : Option (List Nat) → List Ent
  | none => dropE es n
  | some t => putE es n t
abbrev sChanged : Stmt := top 67
theorem scChanged : FnScope ["pairs", "name", "text", "pair"] ["pairs", "name", "text"] (defScope sChanged) := ⟨rfl, rfl, rfl, by decide +kernel, rfl, by decide +kernel, by decide +kernel⟩
def spChanged : Sp := fun vs H Q _ => ∃ (l : Addr) (es : List Ent) (n : List Nat) (t : Option (List Nat)), vs = [.ref l, .str (S n), oV t] ∧ Prs H l es ∧ es.length ≤ 200 ∧ ∀ l' H', Same H H' → Prs H' l' (changeE es n t) → Q (.ref l') H'
section
variable {P : Program} {w : World} {K : PySem.W.Frag} {mg : Str → Option Value} {base : Heap} {c : Nat → Addr}
theorem ok_book {f C CP : Addr} {fd : FuncData} (F : Fun K "_law_book" "_law_book" sBook f fd) (T : BkT K mg C) (M : BkM P w K mg base c C CP) : FnOk P w K mg base CX0 9 f fd ["letters", "pairs", "room"] (spBook C CP) := by
  refine F.ok scBook (fun vs H Q E h => ?_) (fun cdv A outer s H vs Q E hr h => ?_)
  · obtain ⟨l, al, room, es, rfl, _⟩ := h
    rfl
  obtain ⟨l, al, room, es, rfl, hA, ⟨ts, hl, ht⟩, hes, hlen, hroom, q⟩ := h
  obtain ⟨fs, fds, Fs, ms, bs⟩ := M.set.ex
  obtain ⟨fb, fdb, Fb, mb, bb⟩ := M.new.ex
  refine ⟨_, (pss_cons (ps_set (i := 3) scBook.nd rfl (Or.inl rfl) (pe_make mb Fb (hr.mono (by decide)) (by rfl) T.mgC bb .nil pass0 (pa_cons (pv 0) (pa_cons (pv 2) pa_nil))))
    (pss_cons (ps_for PassesOwn.never rfl (pi_list (pv 1)) (pg_name (i := 4) scBook.nd rfl (Or.inl rfl))
      (pss_one (ps_asg (pixT (pv 4) pe_int) (pg_sub (pv 3) (pixT (pv 4) pe_int) (set_own (E := EN) Fs ms M.nsq bs passN hr)))))
    (pss_one (ps_ret (pv 3))))), ?_⟩
  refine ⟨_, rfl, _, rfl, fun p dx hp hdx hne => ?_⟩
  have sb : Same H (upd (upd H dx (.own p)) p (.ins C dx [])) := (same_new hdx (.own p)).trans (same_new (by rw [upd_ne (Ne.symm hne)]; exact hp) _)
  refine ⟨p, dx, al, room, rfl, upd_same, hA, hroom, fun H1 td pd f1 f2 bt nt np B => ⟨rfl, ?_⟩⟩
  have nt := sb.free nt
  have np := sb.free np
  have s1 : Same H H1 := fun b o e => bt b o (fun z => by rw [z, hp] at e; cases e) (sb b o e)
  clear bt sb
  refine ⟨_, rfl, l, rfl, ⟨_, SqL.of (s1 _ _ hl)⟩, ?_⟩
  have hlt : ts.length = es.length := Paired.length ht
  refine L2.for_it (L2.walk_list (xs := ts.map V.ref)) (fun i σ H' => ∃ (x : Option V), σ = [some (.str (S al)), some (.ref l), some (.int (room : Int)), some (.ref p), x] ∧ Same H H' ∧ BookAt H' p dx td pd f1 f2 C CP al room (es.take i))
    ⟨_, rfl, s1, B⟩ (fun _ _ _ _ ⟨_, _, s, _⟩ => SqL.of (s _ _ hl)) ?_ ?_
  · rintro i x σ H2 H3 hi ⟨x1, rfl, s2, B2⟩ ⟨rfl, hx⟩
    obtain ⟨t, e, rfl, hti, hei, hat⟩ := prs_get ht hx
    have hat := s2 _ _ hat
    obtain ⟨hok, rows, hrow⟩ := hes.v e (List.mem_of_getElem? hei)
    have h12 := hok.n12
    have h200 := readP_len hrow
    have htk : es.take (i + 1) = es.take i ++ [(e.1, e.2)] := by rw [List.take_add_one, hei]; rfl
    have hi2 : i < es.length := (List.getElem?_eq_some_iff.mp hei).1
    have hnone : toldE (es.take i) e.1 = none := told_not fun z => by
      have hu := hes.u
      unfold Uniq at hu
      have hs : es = es.take i ++ e :: es.drop (i + 1) := by
        obtain ⟨g1, g2⟩ := List.getElem?_eq_some_iff.mp hei
        rw [← g2, ← List.drop_eq_getElem_cons g1, List.take_append_drop]
      rw [hs, List.map_append] at hu
      exact (List.nodup_append.mp hu).2.2 e.1 z e.1 List.mem_cons_self rfl
    refine ⟨_, rfl, t, _, _, _, rfl, rfl, SqT.of hat, at1 _ _ _, _, rfl, _, rfl, t, _, _, _, rfl, rfl, SqT.of hat, at0 _ _, p, dx, _, rfl, B2.o, p, dx, td, pd, f1, f2, al, room, _, e.1, e.2, _, rfl, B2, by omega, by omega, hrow, fun z => absurd hok z, fun _ => ⟨fun i h => (nomatch h), fun h => (nomatch h), fun rows' hr' => ⟨fun _ hlen2 => ?_, fun _ H4 k4 B4 => ⟨_, rfl, k4.same s2 nt np, ?_⟩⟩⟩⟩
    · exfalso
      rw [List.length_take] at hlen2
      omega
    · rw [htk, ← put_new hnone]
      exact B4
  · rintro σ H2 ⟨x1, rfl, s2, B2⟩
    rw [List.length_map, hlt, List.take_length] at B2
    exact ⟨_, rfl, q p H2 s2 ⟨dx, td, pd, f1, f2, B2, hp, nt, np⟩⟩
theorem ok_lines {f : Addr} {fd : FuncData} (F : Fun K "_law_lines" "_law_lines" sLines f fd) : FnOk P w K mg base CX0 1 f fd ["pairs"] spLines := by
  refine F.ok scLines (fun vs H Q E h => ?_) (fun cdv A outer s H vs Q E hr h => ?_)
  · obtain ⟨l, es, rfl, _⟩ := h
    rfl
  obtain ⟨l, es, rfl, ⟨ts, hl, ht⟩, hlen, hv, q⟩ := h
  refine ⟨_, (pss_one (ps_ret (pe_join pe_str (pe_lc (te := tOp rAddS (tOp rAddS (tIx K 1 0) (tC (.str "="))) (tIx K 1 1)) (own := [("pair", 1)]) (g := gName 1) (tt := tYes) rfl scLines.nd (pi_list (pv 0)) (blkOk_by (own := [("pair", 1)]) (N := ["pairs", "pair"]) (sc := defScope sLines) (by decide +kernel)) (fun _ _ _ _ _ => (pg_name (i := 1) scLines.nd rfl (Or.inl rfl))) (fun _ _ _ _ _ => pts_nil) (fun _ _ _ _ _ => (pe_op op_addS (pe_op op_addS (pixT (pv 1) pe_int) pe_str) (pixT (pv 1) pe_int))))))), ?_⟩
  have hlt : ts.length = es.length := Paired.length ht
  refine ⟨⟨_, rfl⟩, _, rfl, l, rfl, ⟨_, SqL.of hl⟩, fun L hL => ?_⟩
  refine L2.lc_it (L2.walk_list (xs := ts.map V.ref)) (fun i H' => Same H H' ∧ H' L = some (.lst ((es.take i).map fun e => V.str (lineE e)))) ⟨same_new hL _, upd_same⟩ (fun _ _ _ ⟨s, _⟩ => SqL.of (s _ _ hl)) ?_ ?_
  · rintro i x H1 H2 hi ⟨s1, hL1⟩ ⟨rfl, hx⟩
    obtain ⟨t, e, rfl, hti, hei, hat⟩ := prs_get ht hx
    have hat := s1 _ _ hat
    obtain ⟨h12, h200⟩ := hv e (List.mem_of_getElem? hei)
    refine ⟨rfl, _, rfl, t, _, _, _, rfl, rfl, SqT.of hat, at0 _ _, _, _, rfl, rfl, ?_, ?_⟩
    · rw [c61, S_len, S_len]; exact sz (by show _ + 1 ≤ _; omega)
    rw [c61, S_app]
    refine ⟨_, rfl, t, _, _, _, rfl, rfl, SqT.of hat, at1 _ _ _, _, _, rfl, rfl, ?_, ?_⟩
    · rw [S_len, S_len, List.length_append]; exact sz (by show _ + 1 + _ ≤ _; omega)
    refine ⟨_, hL1, small_lt (by rw [List.length_map, List.length_take]; omega), same_upd s1 hL, ?_⟩
    rw [upd_same, List.take_add_one, hei, List.map_append, S_app]
    show some (HO.lst (_ ++ [V.str (S ((e.1 ++ [61]) ++ e.2))])) = some (HO.lst (_ ++ [V.str (S (e.1 ++ 61 :: e.2))]))
    rw [List.append_assoc]
    rfl
  · rintro H1 ⟨s1, hL1⟩
    rw [List.length_map, hlt, List.take_length] at hL1
    have e9 : (es.map fun e => V.str (lineE e)) = (es.map lineE).map V.str := by rw [List.map_map]; rfl
    rw [e9] at hL1
    refine ⟨_, L, es.map lineE, rfl, rfl, .inl (SqL.of hL1), ?_, q _ s1⟩
    have h1 := sum_le (xs := (es.map lineE).map (·.length)) (n := 213) fun x hx => by
      obtain ⟨z, hz, rfl⟩ := List.mem_map.mp hx
      obtain ⟨d, hd, rfl⟩ := List.mem_map.mp hz
      exact line_len (hv d hd).1 (hv d hd).2
    rw [List.length_map, List.length_map] at h1
    rw [List.length_map]
    show _ + es.length * 1 ≤ _
    omega
theorem ok_told {f : Addr} {fd : FuncData} (F : Fun K "_law_told" "_law_told" sTold f fd) : FnOk P w K mg base CX0 1 f fd ["pairs", "name"] spTold := by
  refine F.ok scTold (fun vs H Q E h => ?_) (fun cdv A outer s H vs Q E hr h => ?_)
  · obtain ⟨l, es, n, rfl, _⟩ := h
    rfl
  obtain ⟨l, es, n, rfl, ⟨ts, hl, ht⟩, q⟩ := h
  refine ⟨_, (pss_cons (ps_for PassesOwn.never rfl (pi_list (pv 0)) (pg_name (i := 2) scTold.nd rfl (Or.inl rfl))
      (pss_one (ps_if (pt_cmpR op_eq (pixT (pv 2) pe_int) (pv 1) (nomark _))
        (pss_one (ps_ret (pixT (pv 2) pe_int)))
        pss_nil)))
    (pss_one (ps_ret pe_non))), ?_⟩
  have hlt : ts.length = es.length := Paired.length ht
  refine ⟨_, rfl, l, rfl, ⟨_, SqL.of hl⟩, ?_⟩
  refine L2.for_it (L2.walk_list (xs := ts.map V.ref)) (fun i σ H' => ∃ (x : Option V), σ = [some (.ref l), some (.str (S n)), x] ∧ H' = H ∧ toldE (es.drop i) n = toldE es n) ⟨_, rfl, rfl, rfl⟩ (fun _ _ _ _ ⟨_, _, e, _⟩ => by rw [e]; exact SqL.of hl) ?_ ?_
  · rintro i x σ H2 H3 hi ⟨x1, rfl, rfl, hd⟩ ⟨rfl, hx⟩
    obtain ⟨t, e, rfl, hti, hei, hat⟩ := prs_get ht hx
    have hs : es.drop i = e :: es.drop (i + 1) := by
      obtain ⟨g1, g2⟩ := List.getElem?_eq_some_iff.mp hei
      rw [← g2, ← List.drop_eq_getElem_cons g1]
    rw [hs, told_cons] at hd
    refine ⟨_, rfl, t, _, _, _, rfl, rfl, SqT.of hat, at0 _ _, _, rfl, rfl, _, rfl, ?_⟩
    refine ite2 (fun h => ?_) (fun h => ?_)
    · have h9 : V.str (S e.1) = V.str (S n) := of_decide_eq_true h
      rw [if_pos (S_inj (by injection h9))] at hd
      rw [← hd] at q
      exact ⟨_, rfl, t, _, _, _, rfl, rfl, SqT.of hat, at1 _ _ _, q⟩
    · rw [if_neg (fun z => h (decide_eq_true (by rw [z])))] at hd
      exact ⟨_, rfl, rfl, hd⟩
  · rintro σ H2 ⟨x1, rfl, rfl, hd⟩
    rw [List.length_map, hlt, List.drop_length] at hd
    rw [← hd] at q
    exact q
end
end W8

set_option Elab.async false
set_option linter.all false
set_option maxRecDepth 100000
set_option maxHeartbeats 4000000
namespace W8
open PySem PySem.Spec PyProof.Rows L2 L2E
def rIntB : List V → Hp → VK → Prop := fun xs H Q => ∃ k, xs = [.bl k] ∧ Q (.int (if k = true then 1 else 0)) H
theorem cr_intB {X : Cx} : CallR X (.type "int") rIntB := fun pins s σ H xs us Q I r h => call_int1 pins s σ H xs us Q I r (.inr h)
abbrev sText : Stmt := top 65
theorem scText : FnScope ["state", "letters", "one"] ["state", "letters"] (defScope sText) := ⟨rfl, rfl, rfl, by decide +kernel, rfl, by decide +kernel, by decide +kernel⟩
/-- a text of the law -/
def TextOk (al tx : List Nat) : Prop := ∃ c ∈ al, tx = [c] ∨ (∃ d ∈ al, tx = [c, d]) ∨ tx = [48] ∨ tx = [49] ∨ tx = [46] ∨ tx = [c, 42]
def spText (K : PySem.W.Frag) : Sp := fun vs H Q _ => ∃ (a : Addr) (al : List Nat), vs = [.ref a, .str (S al)] ∧ AlphOk al ∧ ∃ p, StOk K H a p ∧ ∀ tx H', TextOk al tx → But a H H' → StOk K H' a p → Q (.str (S tx)) H'
theorem StOk.mono {K : PySem.W.Frag} {H H' : Hp} {a p : Addr} (h : StOk K H a p) (s : Same H H') : StOk K H' a p := by
  obtain ⟨cs, i, v, l, m, S⟩ := h
  exact ⟨cs, i, v, l, m, s _ _ S.h, s _ _ S.c, S.ne, S.b, S.n, S.i0, S.v0, S.m0⟩
theorem StOk.at_ {K : PySem.W.Frag} {H : Hp} {a p : Addr} (h : StOk K H a p) : ∃ i v l m, H a = some (.lst (stL p i v l m)) := by
  obtain ⟨cs, i, v, l, m, S⟩ := h
  exact ⟨i, v, l, m, S.h⟩
theorem prs_snoc {H : Hp} {ts : List Addr} {es : List Ent} {t : Addr} {e : Ent} (h : Paired (fun (t : Addr) (e : Ent) => H t = some (.tup (prow e))) ts es) (h2 : H t = some (.tup (prow e))) : Paired (fun (t : Addr) (e : Ent) => H t = some (.tup (prow e))) (ts ++ [t]) (es ++ [e]) := paired_snoc h h2
section
variable {P : Program} {w : World} {K : PySem.W.Frag} {mg : Str → Option Value} {base : Heap} {c : Nat → Addr}
theorem ok_text {f : Addr} {fd : FuncData} (F : Fun K "_law_text" "_law_text" sText f fd) (tl : mg "len" = none) (c_law_draw : Cal P w K mg base "_law_draw" 1 ["state", "many"] (spDraw K)) : FnOk P w K mg base CX0 2 f fd ["state", "letters"] (spText K) := by
  refine F.ok scText (fun vs H Q E h => ?_) (fun cdv A outer s H vs Q E hr h => ?_)
  · obtain ⟨a, al, rfl, _⟩ := h
    rfl
  obtain ⟨a, al, rfl, hA, p, S0, q⟩ := h
  have n1 := hA.n1
  have n3 := hA.n3
  refine ⟨_, (pss_cons (ps_set (i := 2) scText.nd rfl (Or.inl rfl) (pixS (pv 1) (pcall c_law_draw hr (pa_cons (pv 0) (pa_cons (pB1 call_len_str tl (pv 1)) pa_nil)))))
    (pss_one (ps_ret (pixL (pe_lst (pa_cons (pv 2) (pa_cons (pe_op op_add_str (pv 2) (pixS (pv 1) pe_int)) (pa_cons pe_str (pa_cons pe_str (pa_cons pe_str (pa_cons (pe_op op_add_str (pv 2) pe_str) pa_nil))))))) (pcall c_law_draw hr (pa_cons (pv 0) (pa_cons pe_int pa_nil))))))), ?_⟩
  have sl : (S al).length ≤ sizeLine := by rw [S_len]; exact sz (by omega)
  refine ⟨_, rfl, _, rfl, _, rfl, _, rfl, sl, a, _, rfl, by rw [S_len]; omega, by rw [S_len]; omega, _, S0, fun r H1 r0 r1 B1 S1 => ?_⟩
  rw [S_len] at r1
  obtain ⟨c, hcm, _, hat⟩ := at_S (w := al) r0 r1
  obtain ⟨d, hdm, _, hat0⟩ := at_S (w := al) (i := 0) (by omega) (by omega)
  refine ⟨_, _, c, rfl, rfl, sl, hat, ?_⟩
  refine ⟨_, rfl, _, rfl, _, rfl, _, _, d, rfl, rfl, sl, hat0, _, _, rfl, rfl, ?_, _, rfl, _, _, rfl, rfl, ?_, ?_, fun l hl => ?_⟩
  · exact sz (by show 1 + 1 ≤ 100000; decide)
  · exact sz (by show 1 + 1 ≤ 100000; decide)
  · show 6 ≤ sizeLine; decide
  have s1 := same_new hl (.lst [.str (S [c]), .str (S [c] ++ S [d]), .str "0", .str "1", .str ".", .str (S [c] ++ "*")])
  have hl1 : upd H1 l (.lst [.str (S [c]), .str (S [c] ++ S [d]), .str "0", .str "1", .str ".", .str (S [c] ++ "*")]) l = some (.lst [.str (S [c]), .str (S [c] ++ S [d]), .str "0", .str "1", .str ".", .str (S [c] ++ "*")]) := upd_same
  replace s1 : Same H1 (upd H1 l (.lst [.str ⟨#[c]⟩, .str (⟨#[c]⟩ ++ ⟨#[d]⟩), .str "0", .str "1", .str ".", .str (⟨#[c]⟩ ++ "*")])) := s1
  replace hl1 : upd H1 l (.lst [.str ⟨#[c]⟩, .str (⟨#[c]⟩ ++ ⟨#[d]⟩), .str "0", .str "1", .str ".", .str (⟨#[c]⟩ ++ "*")]) l = some (.lst [.str (S [c]), .str (S [c] ++ S [d]), .str "0", .str "1", .str ".", .str (S [c] ++ "*")]) := hl1
  generalize upd H1 l (.lst [.str ⟨#[c]⟩, .str (⟨#[c]⟩ ++ ⟨#[d]⟩), .str "0", .str "1", .str ".", .str (⟨#[c]⟩ ++ "*")]) = H2 at *
  have S2 := S1.mono s1
  refine ⟨_, rfl, a, 6, rfl, by omega, by omega, _, S2, fun u H3 u0 u1 B3 S3 => ?_⟩
  have nla : l ≠ a := fun z => by
    obtain ⟨i', v', l', m', h9⟩ := S1.at_
    rw [← z, hl] at h9
    cases h9
  have hl3 := B3 _ _ nla hl1
  have bt : But a H H3 := B1.trans ((But.same0 s1).trans B3)
  have fin : ∀ tx, TextOk al tx → Q (.str (S tx)) H3 := fun tx ht => q tx H3 ht bt S3
  have six : u = 0 ∨ u = 1 ∨ u = 2 ∨ u = 3 ∨ u = 4 ∨ u = 5 := by omega
  rcases six with rfl | rfl | rfl | rfl | rfl | rfl
  · exact ⟨l, _, _, _, rfl, rfl, SqL.of hl3, rfl, fin [c] ⟨c, hcm, .inl rfl⟩⟩
  · refine ⟨l, _, _, _, rfl, rfl, SqL.of hl3, rfl, ?_⟩
    rw [S_app]
    exact fin [c, d] ⟨c, hcm, .inr (.inl ⟨d, hdm, rfl⟩)⟩
  · refine ⟨l, _, _, _, rfl, rfl, SqL.of hl3, rfl, ?_⟩
    rw [c48]
    exact fin [48] ⟨c, hcm, .inr (.inr (.inl rfl))⟩
  · refine ⟨l, _, _, _, rfl, rfl, SqL.of hl3, rfl, ?_⟩
    rw [c49]
    exact fin [49] ⟨c, hcm, .inr (.inr (.inr (.inl rfl)))⟩
  · refine ⟨l, _, _, _, rfl, rfl, SqL.of hl3, rfl, ?_⟩
    rw [c46]
    exact fin [46] ⟨c, hcm, .inr (.inr (.inr (.inr (.inl rfl))))⟩
  · refine ⟨l, _, _, _, rfl, rfl, SqL.of hl3, rfl, ?_⟩
    rw [c42, S_app]
    exact fin [c, 42] ⟨c, hcm, .inr (.inr (.inr (.inr (.inr rfl))))⟩
theorem ok_changed {f : Addr} {fd : FuncData} (F : Fun K "_law_changed" "_law_changed" sChanged f fd) (ti : mg "int" = none) (c_law_told : Cal P w K mg base "_law_told" 1 ["pairs", "name"] spTold) : FnOk P w K mg base CX0 2 f fd ["pairs", "name", "text"] spChanged := by
  refine F.ok scChanged (fun vs H Q E h => ?_) (fun cdv A outer s H vs Q E hr h => ?_)
  · obtain ⟨l, es, n, t, rfl, _⟩ := h
    rfl
  obtain ⟨l, es, n, t, rfl, ⟨ts, hl, ht⟩, hlen, q⟩ := h
  refine ⟨_, (pss_cons (ps_if (pt_cmpR op_isN (pv 2) pe_non (nomark _))
      (pss_one (ps_ret (pe_lc (tt := tTest (tOp rNe (tIx K 3 0) (tVar 1))) (own := [("pair", 3)]) (g := gName 3) rfl scChanged.nd (pi_list (pv 0)) (blkOk_by (own := [("pair", 3)]) (N := ["pairs", "name", "text", "pair"]) (sc := defScope sChanged) (by decide +kernel)) (fun _ _ _ _ _ => (pg_name (i := 3) scChanged.nd rfl (Or.inl rfl))) (fun _ _ _ _ _ => (pts_one (pt_cmpR op_ne (pixT (pv 3) pe_int) (pv 1) (nomark _)))) (fun _ _ _ _ _ => (pv 3)))))
      pss_nil)
    (pss_cons (ps_if (pt_cmpR op_isN (pcall c_law_told hr (pa_cons (pv 0) (pa_cons (pv 1) pa_nil))) pe_non (nomark _))
      (pss_one (ps_ret (pe_op op_cat (pv 0) (pe_lst (pa_cons (pe_tup (pa_cons (pv 1) (pa_cons (pv 2) pa_nil))) pa_nil)))))
      pss_nil)
    (pss_one (ps_ret (pe_lc (te := tTup (tCons (tIx K 3 0) (tCons (tOp (rIxL K) (tLst (tCons (tIx K 3 1) (tCons (tVar 2) tNil))) (tCB rIntB (tCons (tOp rEq (tIx K 3 0) (tVar 1)) tNil))) tNil))) (own := [("pair", 3)]) (g := gName 3) (tt := tYes) rfl scChanged.nd (pi_list (pv 0)) (blkOk_by (own := [("pair", 3)]) (N := ["pairs", "name", "text", "pair"]) (sc := defScope sChanged) (by decide +kernel)) (fun _ _ _ _ _ => (pg_name (i := 3) scChanged.nd rfl (Or.inl rfl))) (fun _ _ _ _ _ => pts_nil) (fun _ _ _ _ _ => (pe_tup (pa_cons (pixT (pv 3) pe_int) (pa_cons (pixL (pe_lst (pa_cons (pixT (pv 3) pe_int) (pa_cons (pv 2) pa_nil))) (pT1 (T := "int") (r := rIntB) cr_intB ti (pe_cmpR op_eq (pixT (pv 3) pe_int) (pv 1) (nomark _)))) pa_nil))))))))), ?_⟩
  have hlt : ts.length = es.length := Paired.length ht
  refine ⟨_, rfl, rfl, _, rfl, ?_⟩
  cases t with
  | none =>
    refine ite2 (fun _ => ?_) (fun z => absurd rfl z)
    refine ⟨_, rfl, l, rfl, ⟨_, SqL.of hl⟩, fun L hL => ?_⟩
    refine L2.lc_it (L2.walk_list (xs := ts.map V.ref)) (fun i H' => Same H H' ∧ ∃ us : List Addr, us.length ≤ i ∧ H' L = some (.lst (us.map V.ref)) ∧ Paired (fun (t : Addr) (e : Ent) => H t = some (.tup (prow e))) us (dropE (es.take i) n)) ⟨same_new hL _, [], Nat.le_refl _, upd_same, .nil⟩ (fun _ _ _ ⟨s, _⟩ => SqL.of (s _ _ hl)) ?_ ?_
    · rintro i x H1 H2 hi ⟨s1, us, hul, hL1, hp⟩ ⟨rfl, hx⟩
      obtain ⟨t, e, rfl, hti, hei, hat⟩ := prs_get ht hx
      have hi2 : i < es.length := (List.getElem?_eq_some_iff.mp hei).1
      have hdr : dropE (es.take (i + 1)) n = dropE (es.take i) n ++ if e.1 = n then [] else [e] := by
        rw [List.take_add_one, hei]
        unfold dropE
        rw [List.filter_append]
        refine congrArg _ ?_
        show List.filter _ [e] = _
        by_cases h : e.1 = n
        · rw [List.filter_cons, if_neg (by simp [h]), if_pos h]; rfl
        · rw [List.filter_cons, if_pos (by simp [h]), if_neg h]; rfl
      refine ⟨rfl, _, rfl, t, _, _, _, rfl, rfl, SqT.of (s1 _ _ hat), at0 _ _, _, rfl, rfl, _, rfl, ?_⟩
      refine ite2 (fun h => ?_) (fun h => ?_)
      · have hne : ¬ e.1 = n := fun z => decF h (by rw [z])
        refine ⟨_, rfl, _, hL1, small_lt (by rw [List.length_map]; omega), same_upd s1 hL, us ++ [t], by rw [List.length_append]; show _ + 1 ≤ _; omega, by rw [upd_same, List.map_append]; rfl, ?_⟩
        rw [hdr, if_neg hne]
        exact paired_snoc hp hat
      · have he : e.1 = n := S_inj (by have := decT h; injection this)
        refine ⟨s1, us, by omega, hL1, ?_⟩
        rw [hdr, if_pos he, List.append_nil]
        exact hp
    · rintro H1 ⟨s1, us, hul, hL1, hp⟩
      rw [List.length_map, hlt, List.take_length] at hp
      exact q L H1 s1 ⟨us, hL1, Paired.mapP hp fun _ _ z => s1 _ _ z⟩
  | some t =>
    refine ite2 (fun z => (by cases z)) (fun _ => ?_)
    refine ⟨_, rfl, _, rfl, l, es, n, rfl, ⟨ts, hl, ht⟩, rfl, _, rfl, ?_⟩
    refine ite2 (fun h => ?_) (fun h => ?_)
    · have hnone : toldE es n = none := by
        cases hh : toldE es n with
        | none => rfl
        | some _ => rw [hh] at h; cases h
      refine ⟨_, rfl, _, rfl, _, rfl, by show 2 ≤ sizeLine; decide, fun tt htt => ⟨by show 1 ≤ sizeLine; decide, fun m hm => ?_⟩⟩
      have s1 := same_new htt (.tup [.str (S n), oV (some t)])
      have s2 := s1.trans (same_new hm (.lst [.ref tt]))
      have htt2 : upd (upd H tt (.tup [.str (S n), oV (some t)])) m (.lst [.ref tt]) tt = some (.tup (prow (n, t))) := by rw [upd_ne (ne_of_none upd_same hm)]; exact upd_same
      refine ⟨l, m, ts.map V.ref, [.ref tt], rfl, rfl, s2 _ _ hl, upd_same, sz (by rw [List.length_map]; show _ + 1 ≤ _; omega), fun L hL => ?_⟩
      have s3 := same_new hL (.lst (ts.map V.ref ++ [.ref tt]))
      refine q L _ (s2.trans s3) ⟨ts ++ [tt], by rw [upd_same, List.map_append]; rfl, ?_⟩
      show Paired _ _ (putE es n t)
      rw [put_new hnone]
      exact paired_snoc (Paired.mapP ht fun _ _ z => s3 _ _ (s2 _ _ z)) (s3 _ _ htt2)
    · have hsome : (toldE es n).isSome = true := by
        cases hh : toldE es n with
        | none => rw [hh] at h; exact absurd rfl h
        | some _ => rfl
      refine ⟨_, rfl, l, rfl, ⟨_, SqL.of hl⟩, fun L hL => ?_⟩
      refine L2.lc_it (L2.walk_list (xs := ts.map V.ref)) (fun i H' => Same H H' ∧ ∃ us : List Addr, us.length = i ∧ H' L = some (.lst (us.map V.ref)) ∧ Paired (fun (t : Addr) (e : Ent) => H' t = some (.tup (prow e))) us ((es.take i).map (updE n t))) ⟨same_new hL _, [], rfl, upd_same, .nil⟩ (fun _ _ _ ⟨s, _⟩ => SqL.of (s _ _ hl)) ?_ ?_
      · rintro i x H1 H2 hi ⟨s1, us, hul, hL1, hp⟩ ⟨rfl, hx⟩
        obtain ⟨tq, e, rfl, hti, hei, hat⟩ := prs_get ht hx
        have hi2 : i < es.length := (List.getElem?_eq_some_iff.mp hei).1
        have hat1 := s1 _ _ hat
        refine ⟨rfl, _, rfl, tq, _, _, _, rfl, rfl, SqT.of hat1, at0 _ _, _, rfl, tq, _, _, _, rfl, rfl, SqT.of hat1, at1 _ _ _, _, rfl, by show 2 ≤ sizeLine; decide, fun m hm => ?_⟩
        have s2 := same_new hm (.lst [.str (S e.2), oV (some t)])
        have hat2 := s2 _ _ hat1
        refine ⟨_, rfl, tq, _, _, _, rfl, rfl, SqT.of hat2, at0 _ _, _, rfl, rfl, _, rfl, m, _, _, V.str (S (updE n t e).2), rfl, rfl, SqL.of upd_same, ?_, by show 2 ≤ sizeLine; decide, fun tt htt => ?_⟩
        · unfold updE
          by_cases he : e.1 = n
          · rw [if_pos he, he, decide_eq_true rfl]
            rfl
          · rw [if_neg he, decide_eq_false (fun z => he (S_inj (by injection z)))]
            rfl
        have s3 := s2.trans (same_new htt (.tup [.str (S e.1), .str (S (updE n t e).2)]))
        have htt3 : upd (upd H2 m (.lst [.str (S e.2), oV (some t)])) tt (.tup [.str (S e.1), .str (S (updE n t e).2)]) tt = some (.tup (prow (updE n t e))) := by
          rw [upd_same]
          unfold updE prow
          split <;> rfl
        have hL3 := s3 _ _ hL1
        have s13 := s1.trans s3
        have hp4 := Paired.mapP hp fun _ _ z => s3 _ _ z
        refine ⟨_, hL3, small_lt (by rw [List.length_map]; omega), same_upd s13 hL, us ++ [tt], by rw [List.length_append, hul]; rfl, by rw [upd_same, List.map_append]; rfl, ?_⟩
        rw [List.take_add_one, hei, List.map_append]
        refine paired_snoc (Paired.mapP hp4 fun _ _ z => ?_) ?_
        · rw [upd_ne (ne_of z hL3 (fun z => nomatch z))]; exact z
        · rw [upd_ne (ne_of htt3 hL3 (fun z => nomatch z))]; exact htt3
      · rintro H1 ⟨s1, us, hul, hL1, hp⟩
        rw [List.length_map, hlt, List.take_length] at hp
        refine q L H1 s1 ⟨us, hL1, ?_⟩
        show Paired _ _ (putE es n t)
        unfold putE
        rw [told_any, if_pos hsome]
        exact hp
end
end W8

set_option Elab.async false
set_option linter.all false
set_option maxRecDepth 100000
set_option maxHeartbeats 4000000
namespace W8
open PySem PySem.Spec PyProof.Rows L2 L2E
abbrev sDue : Stmt := top 68
theorem scDue : FnScope ["base", "one", "other", "kept", "clashes", "names", "name", "first", "left", "right", "pair"] ["base", "one", "other"] (defScope sDue) := ⟨rfl, rfl, rfl, by decide +kernel, rfl, by decide +kernel, by decide +kernel⟩
def spDue : Sp := fun vs H Q _ => ∃ (l0 l1 l2 : Addr) (e0 e1 e2 : List Ent), vs = [.ref l0, .ref l1, .ref l2] ∧ Prs H l0 e0 ∧ Prs H l1 e1 ∧ Prs H l2 e2 ∧ e1.length ≤ 200 ∧ e2.length ≤ 200 ∧
  ∀ l' k cl H', Same H H' → H' l' = some (.lst [.ref k, .ref cl]) → Prs H' k (keptE e0 e1 e2) → H' cl = some (.lst (sgs (clashE e0 e1 e2))) → Q (.ref l') H'
section
variable {P : Program} {w : World} {K : PySem.W.Frag} {mg : Str → Option Value} {base : Heap} {c : Nat → Addr}
theorem ok_due {f : Addr} {fd : FuncData} (F : Fun K "_law_due" "_law_due" sDue f fd) (c_law_told : Cal P w K mg base "_law_told" 1 ["pairs", "name"] spTold) : FnOk P w K mg base CX0 2 f fd ["base", "one", "other"] spDue := by
  refine F.ok scDue (fun vs H Q E h => ?_) (fun cdv A outer s H vs Q E hr h => ?_)
  · obtain ⟨l0, l1, l2, e0, e1, e2, rfl, _⟩ := h
    rfl
  obtain ⟨l0, l1, l2, e0, e1, e2, rfl, P0, P1, P2, hz1, hz2, q⟩ := h
  refine ⟨_, (pss_cons (ps_set (i := 3) scDue.nd rfl (Or.inl rfl) (pe_lst pa_nil))
    (pss_cons (ps_set (i := 4) scDue.nd rfl (Or.inl rfl) (pe_lst pa_nil))
    (pss_cons (ps_set (i := 5) scDue.nd rfl (Or.inl rfl) (pe_op op_cat (pe_lc (te := tIx K 10 0) (own := [("pair", 10)]) (g := gName 10) (tt := tYes) rfl scDue.nd (pi_list (pv 1)) (blkOk_by (own := [("pair", 10)]) (N := ["base", "one", "other", "kept", "clashes", "names", "name", "first", "left", "right", "pair"]) (sc := defScope sDue) (by decide +kernel)) (fun _ _ _ _ _ => (pg_name (i := 10) scDue.nd rfl (Or.inl rfl))) (fun _ _ _ _ _ => pts_nil) (fun _ _ _ _ _ => (pixT (pv 10) pe_int))) (pe_lc (te := tIx K 10 0) (tt := tTest (tOp rIsN (tCall spTold [] E0 (tCons (tVar 1) (tCons (tIx K 10 0) tNil))) (tC .non))) (own := [("pair", 10)]) (g := gName 10) rfl scDue.nd (pi_list (pv 2)) (blkOk_by (own := [("pair", 10)]) (N := ["base", "one", "other", "kept", "clashes", "names", "name", "first", "left", "right", "pair"]) (sc := defScope sDue) (by decide +kernel)) (fun _ _ _ _ _ => (pg_name (i := 10) scDue.nd rfl (Or.inl rfl))) (fun _ _ _ _ _ => (pts_one (pt_cmpR op_isN1 (pcall c_law_told (by exact hr) (pa_cons (pv 1) (pa_cons (pixT (pv 10) pe_int) pa_nil))) pe_non (nomark _)))) (fun _ _ _ _ _ => (pixT (pv 10) pe_int)))))
    (pss_cons (ps_for PassesOwn.never rfl (pi_list (pv 5)) (pg_name (i := 6) scDue.nd rfl (Or.inl rfl))
      (pss_cons (ps_set (i := 7) scDue.nd rfl (Or.inl rfl) (pcall c_law_told hr (pa_cons (pv 0) (pa_cons (pv 6) pa_nil))))
      (pss_cons (ps_set (i := 8) scDue.nd rfl (Or.inl rfl) (pcall c_law_told hr (pa_cons (pv 1) (pa_cons (pv 6) pa_nil))))
      (pss_cons (ps_set (i := 9) scDue.nd rfl (Or.inl rfl) (pcall c_law_told hr (pa_cons (pv 2) (pa_cons (pv 6) pa_nil))))
      (pss_one (ps_if (PW.pt (pw_or (pt_cmpR op_eq (pv 8) (pv 9) (nomark _)) (pw_or1 (pt_cmpR op_eq (pv 9) (pv 7) (nomark _)))))
        (pss_one (ps_if (pt_cmpR op_notN (pv 8) pe_non (nomark _))
          (pss_one (ps_expr (pe_bm PySem.F.plainAttrs_list PySem.F.slot_list_append PySem.F.type_list_append mt_append (pv 3) (pa_cons (pe_tup (pa_cons (pv 6) (pa_cons (pv 8) pa_nil))) pa_nil))))
          pss_nil))
        (pss_one (ps_if (pt_cmpR op_eq (pv 8) (pv 7) (nomark _))
          (pss_one (ps_if (pt_cmpR op_notN (pv 9) pe_non (nomark _))
            (pss_one (ps_expr (pe_bm PySem.F.plainAttrs_list PySem.F.slot_list_append PySem.F.type_list_append mt_append (pv 3) (pa_cons (pe_tup (pa_cons (pv 6) (pa_cons (pv 9) pa_nil))) pa_nil))))
            pss_nil))
          (pss_one (ps_expr (pe_bm PySem.F.plainAttrs_list PySem.F.slot_list_append PySem.F.type_list_append mt_append (pv 4) (pa_cons (pv 6) pa_nil))))))))))))
    (pss_one (ps_ret (pe_lst (pa_cons (pv 3) (pa_cons (pv 4) pa_nil))))))))), ?_⟩
  refine ⟨Nat.zero_le _, fun k hk => ⟨Nat.zero_le _, fun cl hcl => ?_⟩⟩
  have s1 := (same_new hk (.lst [])).trans (same_new hcl (.lst []))
  have hk1 : upd (upd H k (.lst [])) cl (.lst []) k = some (.lst []) := by rw [upd_ne (ne_of_none upd_same hcl)]; exact upd_same
  have hcl1 : upd (upd H k (.lst [])) cl (.lst []) cl = some (.lst []) := upd_same
  have ncl : H cl = none := (same_new hk (.lst [])).free hcl
  have nkc : k ≠ cl := ne_of_none upd_same hcl
  generalize upd (upd H k (.lst [])) cl (.lst []) = H1 at *
  clear hcl
  obtain ⟨ts1, hl1, ht1⟩ := P1.mono s1
  have hlt1 : ts1.length = e1.length := Paired.length ht1
  refine ⟨_, rfl, l1, rfl, ⟨_, SqL.of hl1⟩, fun L hL => ?_⟩
  refine L2.lc_it (L2.walk_list (xs := ts1.map V.ref)) (fun i H' => Same H1 H' ∧ H' L = some (.lst (sgs ((e1.take i).map (·.1))))) ⟨same_new hL _, upd_same⟩ (fun _ _ _ ⟨s, _⟩ => SqL.of (s _ _ hl1)) ?_ ?_
  · rintro i x H2 H3 hi ⟨s2, hL2⟩ ⟨rfl, hx⟩
    obtain ⟨t, e, rfl, hti, hei, hat⟩ := prs_get ht1 hx
    have hi2 : i < e1.length := (List.getElem?_eq_some_iff.mp hei).1
    refine ⟨rfl, _, rfl, t, _, _, _, rfl, rfl, SqT.of (s2 _ _ hat), at0 _ _, _, hL2, small_lt (by unfold sgs; rw [List.length_map, List.length_map, List.length_take]; omega), same_upd s2 hL, ?_⟩
    rw [upd_same, List.take_add_one, hei, List.map_append, sgs_app]
    rfl
  rintro H2 ⟨s2, hL2⟩
  rw [List.length_map, hlt1, List.take_length] at hL2
  obtain ⟨ts2, hl2, ht2⟩ := (P2.mono s1).mono s2
  have P12 := (P1.mono s1).mono s2
  have hlt2 : ts2.length = e2.length := Paired.length ht2
  refine ⟨_, rfl, l2, rfl, ⟨_, SqL.of hl2⟩, fun M hM => ?_⟩
  have hlen : ∀ i, ((e2.take i).filter fun e => (toldE e1 e.1).isNone).length ≤ 200 := fun i => by
    have := List.length_filter_le (fun e : Ent => (toldE e1 e.1).isNone) (e2.take i)
    rw [List.length_take] at this
    omega
  refine L2.lc_it (L2.walk_list (xs := ts2.map V.ref)) (fun i H' => Same H2 H' ∧ H' M = some (.lst (sgs (((e2.take i).filter fun e => (toldE e1 e.1).isNone).map (·.1))))) ⟨same_new hM _, upd_same⟩ (fun _ _ _ ⟨s, _⟩ => SqL.of (s _ _ hl2)) ?_ ?_
  · rintro i x H3 H4 hi ⟨s3, hM3⟩ ⟨rfl, hx⟩
    obtain ⟨t, e, rfl, hti, hei, hat⟩ := prs_get ht2 hx
    have hat3 := s3 _ _ hat
    refine ⟨rfl, _, rfl, _, rfl, t, _, _, _, rfl, rfl, SqT.of hat3, at0 _ _, l1, e1, e.1, rfl, P12.mono s3, rfl, _, rfl, ?_⟩
    refine ite2 (fun h => ?_) (fun h => ?_)
    · have hn : (toldE e1 e.1).isNone = true := by
        cases hh : toldE e1 e.1 with
        | none => rfl
        | some _ => rw [hh] at h; cases h
      refine ⟨_, rfl, t, _, _, _, rfl, rfl, SqT.of hat3, at0 _ _, _, hM3, small_lt (by unfold sgs; rw [List.length_map, List.length_map]; have := hlen i; omega), same_upd s3 hM, ?_⟩
      rw [upd_same, List.take_add_one, hei, List.filter_append, List.map_append, sgs_app]
      show some (HO.lst (_ ++ [V.str (S e.1)])) = some (HO.lst (_ ++ sgs (List.map _ (List.filter _ [e]))))
      rw [List.filter_cons, if_pos hn]
      rfl
    · have hn : ¬ (toldE e1 e.1).isNone = true := fun z => by
        cases hh : toldE e1 e.1 with
        | none => rw [hh] at h; exact h rfl
        | some _ => rw [hh] at z; cases z
      refine ⟨s3, ?_⟩
      rw [hM3, List.take_add_one, hei, List.filter_append, List.map_append, sgs_app]
      show _ = some (HO.lst (_ ++ sgs (List.map _ (List.filter _ [e]))))
      rw [List.filter_cons, if_neg hn]
      show _ = some (HO.lst (_ ++ []))
      rw [List.append_nil]
  rintro H3 ⟨s3, hM3⟩
  rw [List.length_map, hlt2, List.take_length] at hM3
  have hL3 := s3 _ _ hL2
  have hlen2 := hlen e2.length
  rw [List.take_length] at hlen2
  refine ⟨L, M, _, _, rfl, rfl, hL3, hM3, by unfold sgs; rw [List.length_map, List.length_map, List.length_map, List.length_map]; exact sz (by omega), fun N hN => ?_⟩
  rw [← sgs_app]
  have s4 : Same H3 (upd H3 N (.lst (sgs (namesE e1 e2)))) := same_new hN _
  have hN4 : upd H3 N (.lst (sgs (namesE e1 e2))) N = some (.lst (sgs (namesE e1 e2))) := upd_same
  replace hN4 : upd H3 N (.lst (sgs (e1.map (·.1) ++ (e2.filter fun e => (toldE e1 e.1).isNone).map (·.1)))) N = some (.lst (sgs (namesE e1 e2))) := hN4
  replace s4 : Same H3 (upd H3 N (.lst (sgs (e1.map (·.1) ++ (e2.filter fun e => (toldE e1 e.1).isNone).map (·.1))))) := s4
  generalize upd H3 N (.lst (sgs (e1.map (·.1) ++ (e2.filter fun e => (toldE e1 e.1).isNone).map (·.1)))) = H4 at *
  have s24 := s2.trans (s3.trans s4)
  have s5 := s1.trans s24
  have hk4 := s24 _ _ hk1
  have hcl4 := s24 _ _ hcl1
  have nN1 : H1 N = none := (s2.trans s3).free hN
  have nkN : N ≠ k := fun z => by rw [z, hk1] at nN1; cases nN1
  have ncN : N ≠ cl := fun z => by rw [z, hcl1] at nN1; cases nN1
  clear hL hL2 hM hM3 hL3 hl1 hl2 ht1 ht2 hN nN1
  have hnl : (namesE e1 e2).length ≤ 400 := by
    unfold namesE
    rw [List.length_append, List.length_map, List.length_map]
    omega
  have hsl : (sgs (namesE e1 e2)).length = (namesE e1 e2).length := by unfold sgs; rw [List.length_map]
  refine ⟨_, rfl, N, rfl, ⟨_, SqL.of hN4⟩, ?_⟩
  refine L2.for_it (L2.walk_list (xs := sgs (namesE e1 e2))) (fun i σ H' => ∃ (x y7 y8 y9 : Option V) (us : List Addr), σ = [some (.ref l0), some (.ref l1), some (.ref l2), some (.ref k), some (.ref cl), some (.ref N), x, y7, y8, y9, none] ∧ Same H H' ∧ H' N = some (.lst (sgs (namesE e1 e2))) ∧ us.length ≤ i ∧ H' k = some (.lst (us.map V.ref)) ∧
      Paired (fun (t : Addr) (e : Ent) => H' t = some (.tup (prow e))) us (keptN e0 e1 e2 ((namesE e1 e2).take i)) ∧ H' cl = some (.lst (sgs (clashN e0 e1 e2 ((namesE e1 e2).take i)))))
    ⟨none, none, none, none, [], rfl, s5, hN4, Nat.le_refl _, hk4, .nil, hcl4⟩ (fun _ _ _ _ ⟨_, _, _, _, _, _, _, h, _⟩ => SqL.of h) ?_ ?_
  · rintro i x σ H6 H7 hi ⟨x1, y7, y8, y9, us, rfl, s6, hN6, hul, hk6, hp6, hc6⟩ ⟨rfl, hx⟩
    replace hx : (sgs (namesE e1 e2))[i]? = some x := hx
    unfold sgs at hx
    rw [List.getElem?_map] at hx
    cases hn : (namesE e1 e2)[i]? with
    | none => rw [hn] at hx; cases hx
    | some n =>
      rw [hn] at hx
      cases hx
      have hi2 : i < 400 := by have := (List.getElem?_eq_some_iff.mp hn).1; omega
      have htk : (namesE e1 e2).take (i + 1) = (namesE e1 e2).take i ++ [n] := by rw [List.take_add_one, hn]; rfl
      refine ⟨_, rfl, _, rfl, l0, e0, n, rfl, P0.mono s6, ?_⟩
      refine ⟨_, rfl, _, rfl, l1, e1, n, rfl, P1.mono s6, ?_⟩
      refine ⟨_, rfl, _, rfl, l2, e2, n, rfl, P2.mono s6, ?_⟩
      have hcn : clashN e0 e1 e2 ((namesE e1 e2).take (i + 1)) = clashN e0 e1 e2 ((namesE e1 e2).take i) ++ if (pickE e0 e1 e2 n).isNone = true then [n] else [] := by
        rw [htk]
        unfold clashN
        rw [List.filter_append, List.filter_cons]
        rfl
      -- nothing is kept
      have nokeep : pickE e0 e1 e2 n = some none → ∀ y7 y8 y9 : Option V, ∃ (x y7' y8' y9' : Option V) (us : List Addr), [some (.ref l0), some (.ref l1), some (.ref l2), some (.ref k), some (.ref cl), some (.ref N), some (.str (S n)), y7, y8, y9, none] = [some (.ref l0), some (.ref l1), some (.ref l2), some (.ref k), some (.ref cl), some (.ref N), x, y7', y8', y9', none] ∧ Same H H7 ∧ H7 N = some (.lst (sgs (namesE e1 e2))) ∧ us.length ≤ i + 1 ∧ H7 k = some (.lst (us.map V.ref)) ∧
          Paired (fun (t : Addr) (e : Ent) => H7 t = some (.tup (prow e))) us (keptN e0 e1 e2 ((namesE e1 e2).take (i + 1))) ∧ H7 cl = some (.lst (sgs (clashN e0 e1 e2 ((namesE e1 e2).take (i + 1))))) := fun hp y7 y8 y9 => by
        refine ⟨_, _, _, _, us, rfl, s6, hN6, by omega, hk6, ?_, ?_⟩
        · rw [htk, kept_snoc, hp]
          show Paired _ us (_ ++ [])
          rw [List.append_nil]
          exact hp6
        · rw [hcn, hp]
          show _ = some (HO.lst (sgs (_ ++ [])))
          rw [List.append_nil]
          exact hc6
      -- a pair is kept
      have keep : ∀ t, pickE e0 e1 e2 n = some (some t) → ∀ y7 y8 y9 : Option V, ∀ tt, H7 tt = none → ∀ R : L2.St → Hp → Prop, (∀ σ' H', (∃ (x y7' y8' y9' : Option V) (us : List Addr), σ' = [some (.ref l0), some (.ref l1), some (.ref l2), some (.ref k), some (.ref cl), some (.ref N), x, y7', y8', y9', none] ∧ Same H H' ∧ H' N = some (.lst (sgs (namesE e1 e2))) ∧ us.length ≤ i + 1 ∧ H' k = some (.lst (us.map V.ref)) ∧
          Paired (fun (t : Addr) (e : Ent) => H' t = some (.tup (prow e))) us (keptN e0 e1 e2 ((namesE e1 e2).take (i + 1))) ∧ H' cl = some (.lst (sgs (clashN e0 e1 e2 ((namesE e1 e2).take (i + 1)))))) → R σ' H') →
          R [some (.ref l0), some (.ref l1), some (.ref l2), some (.ref k), some (.ref cl), some (.ref N), some (.str (S n)), y7, y8, y9, none] (upd (upd H7 tt (.tup [.str (S n), oV (some t)])) k (.lst (us.map V.ref ++ [.ref tt]))) ∧ upd H7 tt (.tup [.str (S n), oV (some t)]) k = some (.lst (us.map V.ref)) := fun t hp y7 y8 y9 tt htt R kk => by
        have s7 := same_new htt (.tup [.str (S n), oV (some t)])
        have htt7 : upd H7 tt (.tup [.str (S n), oV (some t)]) tt = some (.tup (prow (n, t))) := upd_same
        have hk7 := s7 _ _ hk6
        refine ⟨kk _ _ ⟨_, _, _, _, us ++ [tt], rfl, fun b o e => ?_, ?_, by rw [List.length_append]; show _ + 1 ≤ _; omega, by rw [upd_same, List.map_append]; rfl, ?_, ?_⟩, hk7⟩
        · rw [upd_ne (ne_of_none e hk)]
          exact s7 _ _ (s6 b o e)
        · rw [upd_ne nkN]
          exact s7 _ _ hN6
        · rw [htk, kept_snoc, hp]
          refine paired_snoc (Paired.mapP hp6 fun _ _ z => ?_) ?_
          · rw [upd_ne (ne_of (s7 _ _ z) hk7 (fun z => nomatch z))]; exact s7 _ _ z
          · rw [upd_ne (ne_of htt7 hk7 (fun z => nomatch z))]; exact htt7
        · rw [upd_ne (Ne.symm nkc), hcn, hp]
          show _ = some (HO.lst (sgs (_ ++ [])))
          rw [List.append_nil]
          exact s7 _ _ hc6
      refine ⟨_, rfl, _, rfl, oV_scal _ _, _, rfl, ?_⟩
      rw [oV_dec]
      refine ite2 (fun h1 => ?_) (fun h1 => ?_)
      · refine ite2 (fun _ => ?_) (fun z => absurd rfl z)
        have hp : pickE e0 e1 e2 n = some (toldE e1 n) := by unfold pickE; rw [if_pos (.inl (of_decide_eq_true h1))]
        clear h1
        refine ⟨_, rfl, rfl, _, rfl, ?_⟩
        cases hv : toldE e1 n with
        | none =>
          rw [hv] at hp
          refine ite2 (fun z => (by cases z)) (fun _ => ?_)
          exact nokeep hp _ _ _
        | some t =>
          rw [hv] at hp
          refine ite2 (fun _ => ?_) (fun z => absurd rfl z)
          refine ⟨_, rfl, .inl ⟨rfl, _, SqL.of hk6⟩, _, rfl, _, rfl, by show 2 ≤ sizeLine; decide, fun tt htt => ?_⟩
          obtain ⟨g1, g2⟩ := keep t hp _ _ _ tt htt _ fun σ' H' h => h
          exact ⟨k, _, _, rfl, rfl, g2, small_lt (by rw [List.length_map]; omega), g1⟩
      refine ⟨_, rfl, _, rfl, oV_scal _ _, _, rfl, ?_⟩
      rw [oV_dec]
      refine ite2 (fun h2 => ?_) (fun h2 => ?_)
      · have hp : pickE e0 e1 e2 n = some (toldE e1 n) := by unfold pickE; rw [if_pos (.inr (of_decide_eq_true h2))]
        clear h1
        refine ⟨_, rfl, rfl, _, rfl, ?_⟩
        cases hv : toldE e1 n with
        | none =>
          rw [hv] at hp
          refine ite2 (fun z => (by cases z)) (fun _ => ?_)
          exact nokeep hp _ _ _
        | some t =>
          rw [hv] at hp
          refine ite2 (fun _ => ?_) (fun z => absurd rfl z)
          refine ⟨_, rfl, .inl ⟨rfl, _, SqL.of hk6⟩, _, rfl, _, rfl, by show 2 ≤ sizeLine; decide, fun tt htt => ?_⟩
          obtain ⟨g1, g2⟩ := keep t hp _ _ _ tt htt _ fun σ' H' h => h
          exact ⟨k, _, _, rfl, rfl, g2, small_lt (by rw [List.length_map]; omega), g1⟩
      have hno : ¬ (toldE e1 n = toldE e2 n ∨ toldE e2 n = toldE e0 n) := fun z => z.elim (fun y => h1 (decide_eq_true y)) (fun y => h2 (decide_eq_true y))
      refine ⟨_, rfl, _, rfl, oV_scal _ _, _, rfl, ?_⟩
      rw [oV_dec]
      refine ite2 (fun h3 => ?_) (fun h3 => ?_)
      · have hp : pickE e0 e1 e2 n = some (toldE e2 n) := by unfold pickE; rw [if_neg hno, if_pos (of_decide_eq_true h3)]
        clear hno h1 h2 h3
        refine ⟨_, rfl, rfl, _, rfl, ?_⟩
        cases hv : toldE e2 n with
        | none =>
          rw [hv] at hp
          refine ite2 (fun z => (by cases z)) (fun _ => ?_)
          exact nokeep hp _ _ _
        | some t =>
          rw [hv] at hp
          refine ite2 (fun _ => ?_) (fun z => absurd rfl z)
          refine ⟨_, rfl, .inl ⟨rfl, _, SqL.of hk6⟩, _, rfl, _, rfl, by show 2 ≤ sizeLine; decide, fun tt htt => ?_⟩
          obtain ⟨g1, g2⟩ := keep t hp _ _ _ tt htt _ fun σ' H' h => h
          exact ⟨k, _, _, rfl, rfl, g2, small_lt (by rw [List.length_map]; omega), g1⟩
      have hp : pickE e0 e1 e2 n = none := by unfold pickE; rw [if_neg hno, if_neg (fun y => h3 (decide_eq_true y))]
      have hcl9 : (sgs (clashN e0 e1 e2 ((namesE e1 e2).take i))).length ≤ 400 := by
        unfold sgs clashN
        rw [List.length_map]
        have := List.length_filter_le (fun n => (pickE e0 e1 e2 n).isNone) ((namesE e1 e2).take i)
        rw [List.length_take] at this
        omega
      refine ⟨_, rfl, .inl ⟨rfl, _, SqL.of hc6⟩, _, rfl, cl, _, _, rfl, rfl, hc6, small_lt (by omega), _, _, _, _, us, rfl, fun b o e => ?_, ?_, by omega, ?_, ?_, ?_⟩
      · rw [upd_ne (ne_of_none e ncl)]; exact s6 b o e
      · rw [upd_ne ncN]; exact hN6
      · rw [upd_ne nkc]; exact hk6
      · rw [htk, kept_snoc, hp]
        show Paired _ us (_ ++ [])
        rw [List.append_nil]
        exact Paired.mapP hp6 fun _ _ z => by rw [upd_ne (ne_of z hc6 (fun z => nomatch z))]; exact z
      · rw [upd_same, hcn, hp, sgs_app]
        rfl
  · rintro σ H6 ⟨x1, y7, y8, y9, us, rfl, s6, hN6, hul, hk6, hp6, hc6⟩
    rw [hsl, List.take_length] at hp6 hc6
    refine ⟨_, rfl, _, rfl, by show 2 ≤ sizeLine; decide, fun l' hl' => ?_⟩
    have s7 := same_new hl' (.lst [.ref k, .ref cl])
    exact q l' k cl _ (s6.trans s7) upd_same ⟨us, s7 _ _ hk6, Paired.mapP hp6 fun _ _ z => s7 _ _ z⟩ (s7 _ _ hc6)
end
end W8

set_option Elab.async false
set_option linter.all false
set_option maxRecDepth 100000
set_option maxHeartbeats 4000000
namespace L2N
open PySem PySem.Spec PyProof.Rows L2
def noW : WX := fun _ _ _ _ => False
theorem takes_no {X : Cx} : Takes X noW := fun u s' ⟨a, B, sI, pins, σ, H, cls, d, e, I, nb, up, sky, na, os, ag, w⟩ => False.elim w
end L2N
namespace W8
open PySem PySem.Spec PyProof.Rows L2 L2E
/-- _law_classes, by its name -/
structure CalE (P : Program) (w : World) (K : PySem.W.Frag) (mg : Str → Option Value) (base : Heap) (c : Nat → Addr) : Prop where
  ex : ∃ (f : Addr) (fd : FuncData), FnE P w K mg base 1 f fd ["e"] (spClasses K c) ∧ mg "_law_classes" = some (.ref f) ∧ PySem.W.keepIn K (.ref f) = true ∧ Binds K fd ["e"] []
/-- what the class c k tells -/
structure TellC (K : PySem.W.Frag) (c : Nat → Addr) (k : Nat) (names : List Str) : Prop where
  exc : ExcC K (c k)
  is : ∃ bs, IsOf K c (c k) bs ∧ pick clsNames bs = names
  xf : XfC K (c k)
structure MTryT (K : PySem.W.Frag) (mg : Str → Option Value) (c : Nat → Addr) : Prop where
  t3 : TellC K c 3 ["ValueError", "ToolError", "MixedLetters"]
  t15 : TellC K c 15 ["ValueError", "ToolError", "LimitError"]
  t19 : TellC K c 19 ["ValueError", "ToolError"]
  f15 : PySem.W.findIn K (.ref (c 15)) "limit" = some none
  f19 : PySem.W.findIn K (.ref (c 19)) "names" = some none
  m1 : mg "ToolError" = some (.ref (c 1))
  m15 : mg "LimitError" = some (.ref (c 15))
  m19 : mg "ClashError" = some (.ref (c 19))
  eCC : PySem.W.exmOne K (.ref (c 19)) (.ref (c 19)) = some true
  eLC : PySem.W.exmOne K (.ref (c 15)) (.ref (c 19)) = some false
  eLL : PySem.W.exmOne K (.ref (c 15)) (.ref (c 15)) = some true
  eMC : PySem.W.exmOne K (.ref (c 3)) (.ref (c 19)) = some false
  eML : PySem.W.exmOne K (.ref (c 3)) (.ref (c 15)) = some false
  eMT : PySem.W.exmOne K (.ref (c 3)) (.ref (c 1)) = some true
  kCC : PySem.W.kitOne K (.ref (c 19)) (.ref (c 19)) = some true
  kLC : PySem.W.kitOne K (.ref (c 15)) (.ref (c 19)) = some false
  kMC : PySem.W.kitOne K (.ref (c 3)) (.ref (c 19)) = some false
  isinstance : mg "isinstance" = none
/-- a new list of these is handed back -/
def Told (Q : VK) (H : Hp) (xs : List V) : Prop := ∀ l H', Same H H' → H' l = some (.lst xs) → Q (.ref l) H'
theorem Told.mono {Q : VK} {H H1 : Hp} {xs : List V} (h : Told Q H xs) (s : Same H H1) : Told Q H1 xs := fun l H' s' e => h l H' (s.trans s') e
/-- isinstance(e, c), e the exception that is handled, whatever its class -/
def rIsC (K : PySem.W.Frag) (a : Addr) (cls : Value) (d : Option Addr) : List V → Hp → VK → Prop := fun xs H Q => ∃ (D : Addr) (c : V) (cv : Value) (b : Bool), cls = .ref D ∧ ExcC K D ∧ xs = [.ref a, c] ∧ (∀ u, RelV c u → u = cv) ∧ PySem.W.kitOne K (.ref D) cv = some b ∧ (∀ dd, d = some dd → ∃ fs, H dd = some (.xd fs)) ∧ Q (.bl b) H
theorem call_isXC {X : Cx} {cls : Value} {d : Option Addr} {a : Addr} {oe : Obj} (hz : Zc cls d oe) (hf : ∃ vs, oe.data = .fields vs) (hp : (a, oe) ∈ X.pn) : CallR X (.builtin "isinstance") (rIsC X.K a cls d) := by
  intro pins s σ H xs us Q I r h
  obtain ⟨D, c, cv, b, rfl, hC, e1, e2, e3, e4, q⟩ := h
  exact call_isX (p := (a, oe)) hC hz hf hp pins s σ H xs us Q I r ⟨c, cv, b, e1, e2, e3, e4, q⟩
abbrev sLMerged : Stmt := top 69
theorem scLMerged : FnScope ["base", "one", "other", "e"] ["base", "one", "other"] (defScope sLMerged) := ⟨rfl, rfl, rfl, by decide +kernel, rfl, by decide +kernel, by decide +kernel⟩
abbrev vE : List V := [.str "ValueError", .str "ToolError"]
def spLMerged (C CP : Addr) : Sp := fun vs H Q _ => ∃ (b0 b1 b2 : Addr) (a0 a1 a2 : List Nat) (r0 r1 r2 : Nat) (e0 e1 e2 : List Ent), vs = [.ref b0, .ref b1, .ref b2] ∧ BookE H b0 C CP a0 r0 e0 ∧ BookE H b1 C CP a1 r1 e1 ∧ BookE H b2 C CP a2 r2 e2 ∧ Uniq e1 ∧ Uniq e2 ∧
  (¬ (a1 = a0 ∧ a2 = a0) → Told Q H (vE ++ [.str "MixedLetters", .bl false])) ∧ (a1 = a0 → a2 = a0 → (clashE e0 e1 e2).length < 64 ∧
    (clashE e0 e1 e2 ≠ [] → ∀ l t H' (ys : List Str), Same H H' → ys.Perm ((clashE e0 e1 e2).map S) → sortedS ys = true → H' t = some (.tup (ys.map V.str)) → H' l = some (.lst (vE ++ [.bl true, .ref t])) → Q (.ref l) H') ∧ (clashE e0 e1 e2 = [] →
    (100 < (keptE e0 e1 e2).length → Told Q H (vE ++ [.str "LimitError", .bl false, .int 100])) ∧ ((keptE e0 e1 e2).length ≤ 100 → ∀ l p H', Same H H' → BookN H H' p C CP a0 100 (keptE e0 e1 e2) → H' l = some (.lst [.ref p]) → Q (.ref l) H')))
/-- _law_classes(e) + [isinstance(e, ClashError), e.f] -/
def tCl (K : PySem.W.Frag) (c : Nat → Addr) (a : Addr) (cls : Value) (d : Option Addr) (k : Nat) (f : Str) : TE := tOp rCat (tCallE (spClasses K c) a cls d (tCons (tVar 3) tNil)) (tLst (tCons (tCB (rIsC K a cls d) (tCons (tVar 3) (tCons (tC (.ref (c 19))) tNil))) (tCons (tXf a cls d (c k) f (tVar 3)) tNil)))
def tCl0 (K : PySem.W.Frag) (c : Nat → Addr) (a : Addr) (cls : Value) (d : Option Addr) : TE := tOp rCat (tCallE (spClasses K c) a cls d (tCons (tVar 3) tNil)) (tLst (tCons (tCB (rIsC K a cls d) (tCons (tVar 3) (tCons (tC (.ref (c 19))) tNil))) tNil))
theorem cl_ok {K : PySem.W.Frag} {c : Nat → Addr} {a d : Addr} {k : Nat} {f : Str} {v : V} {b : Bool} {names : List Str} {σ : L2.St} {H : Hp} {Q : VK} (T : TellC K c k names) (hn : names.length ≤ 100) (hd : H d = some (.xd [(f, v)])) (hk : PySem.W.kitOne K (.ref (c k)) (.ref (c 19)) = some b) (hs : σ[3]? = some (some (.ref a)))
    (q : Told Q H (names.map V.str ++ [.bl b, v])) : tCl K c a (.ref (c k)) (some d) k f σ H Q := by
  obtain ⟨bs, hbs, rfl⟩ := T.is
  refine ⟨_, hs, c k, bs, rfl, rfl, T.exc, hbs, (fun dd e => ⟨_, (Option.some.inj e) ▸ hd⟩), fun l H1 s1 h1 => ?_⟩
  have hd1 := s1 _ _ hd
  refine ⟨_, hs, c k, .ref (c 19), _, b, rfl, T.exc, rfl, (fun u r => r), hk, (fun dd e => ⟨_, (Option.some.inj e) ▸ hd1⟩), _, hs, rfl, rfl, d, _, v, rfl, hd1, ?_, by show 2 ≤ sizeLine; decide, fun l2 hl2 => ?_⟩
  · rw [List.lookup_cons]
    simp
  have s2 := same_new hl2 (.lst [.bl b, v])
  refine ⟨l, l2, _, _, rfl, rfl, s2 _ _ h1, upd_same, ?_, fun r hr => q r _ (s1.trans (s2.trans (same_new hr _))) upd_same⟩
  rw [List.length_map]
  exact sz (by show _ + 2 ≤ _; omega)
theorem cl0_ok {K : PySem.W.Frag} {c : Nat → Addr} {a : Addr} {k : Nat} {b : Bool} {names : List Str} {σ : L2.St} {H : Hp} {Q : VK} (T : TellC K c k names) (hn : names.length ≤ 100) (hk : PySem.W.kitOne K (.ref (c k)) (.ref (c 19)) = some b) (hs : σ[3]? = some (some (.ref a)))
    (q : Told Q H (names.map V.str ++ [.bl b])) : tCl0 K c a (.ref (c k)) none σ H Q := by
  obtain ⟨bs, hbs, rfl⟩ := T.is
  refine ⟨_, hs, c k, bs, rfl, rfl, T.exc, hbs, (fun dd e => nomatch e), fun l H1 s1 h1 => ?_⟩
  refine ⟨_, hs, c k, .ref (c 19), _, b, rfl, T.exc, rfl, (fun u r => r), hk, (fun dd e => nomatch e), by show 1 ≤ sizeLine; decide, fun l2 hl2 => ?_⟩
  have s2 := same_new hl2 (.lst [.bl b])
  refine ⟨l, l2, _, _, rfl, rfl, s2 _ _ h1, upd_same, ?_, fun r hr => q r _ (s1.trans (s2.trans (same_new hr _))) upd_same⟩
  rw [List.length_map]
  exact sz (by show _ + 1 ≤ _; omega)
theorem BookN.mono {H0 H H' : Hp} {p C CP : Addr} {al : List Nat} {room : Nat} {es : List Ent} (h : BookN H0 H p C CP al room es) (s : Same H H') : BookN H0 H' p C CP al room es := by
  obtain ⟨dx, td, pd, f1, f2, B, n⟩ := h
  exact ⟨dx, td, pd, f1, f2, B.mono s, n⟩
/-- the three clauses -/
abbrev lsM (K : PySem.W.Frag) (c : Nat → Addr) : List (Value × Nat × (Addr → Value → Option Addr → TS)) :=
  [(.ref (c 19), 3, fun a cls d => tRet (tCl K c a cls d 19 "names")), (.ref (c 15), 3, fun a cls d => tRet (tCl K c a cls d 15 "limit")), (.ref (c 1), 3, fun a cls d => tRet (tCl0 K c a cls d))]
section
variable {P : Program} {w : World} {K : PySem.W.Frag} {mg : Str → Option Value} {base : Heap}
theorem ok_lmerged {c : Nat → Addr} {f C CP : Addr} {fd : FuncData} (F : Fun K "_law_merged" "_law_merged" sLMerged f fd) (Y : MTryT K mg c) (ce : CalE P w K mg base c) (cm : CalX P w K mg base "merged_books" 9 ["base", "one", "other"] (spMerged c C CP)) :
    FnOk P w K mg base CX0 10 f fd ["base", "one", "other"] (spLMerged C CP) := by
  refine F.ok scLMerged (fun vs H Q E h => ?_) (fun cdv A outer s H vs Q E hr h => ?_)
  · obtain ⟨b0, b1, b2, a0, a1, a2, r0, r1, r2, e0, e1, e2, rfl, _⟩ := h
    rfl
  obtain ⟨b0, b1, b2, a0, a1, a2, r0, r1, r2, e0, e1, e2, rfl, B0, B1, B2, u1, u2, eM, q⟩ := h
  obtain ⟨f1, fd1, F1, g1, k1, b1'⟩ := cm.ex
  obtain ⟨f2, fd2, F2, g2, k2, b2'⟩ := ce.ex
  refine ⟨_, pss_one (L2N.ps_try_manyA (l := lsM K c) rfl rfl scLMerged.nd L2N.takes_no
    (fun W pn xe tk lv => pss_one (ps_ret (pe_lst (pa_cons (pe_callS F1 hr (by rfl) g1 k1 b1' (fun σ => L2N.passAt tk σ) (pa_cons (pv 0) (pa_cons (pv 1) (pa_cons (pv 2) pa_nil)))) pa_nil))))
    (L2N.HdsA.cons (i := 3) ⟨by rfl, by decide, .inl Y.m19⟩ rfl rfl (fun a oe cls d pn hz hd => pss_one (ps_ret (pe_op op_cat (pe_callE F2 ((L2H.roomH_of hr).mono (by decide)) hz hd (by rfl) g2 k2 b2' (pa_cons (pv 3) pa_nil)) (pe_lst (pa_cons (pe_callB (call_isXC hz.zc hd List.mem_cons_self) (by rfl) Y.isinstance (by decide +kernel) (pa_cons (pv 3) (pa_cons (pe_glob (v := .ref (c 19)) rfl Y.m19 rfl) pa_nil))) (pa_cons (pe_xf Y.t19.xf Y.f19 hz.zc hd (pv 3)) pa_nil))))))
    (L2N.HdsA.cons (i := 3) ⟨by rfl, by decide, .inl Y.m15⟩ rfl rfl (fun a oe cls d pn hz hd => pss_one (ps_ret (pe_op op_cat (pe_callE F2 ((L2H.roomH_of hr).mono (by decide)) hz hd (by rfl) g2 k2 b2' (pa_cons (pv 3) pa_nil)) (pe_lst (pa_cons (pe_callB (call_isXC hz.zc hd List.mem_cons_self) (by rfl) Y.isinstance (by decide +kernel) (pa_cons (pv 3) (pa_cons (pe_glob (v := .ref (c 19)) rfl Y.m19 rfl) pa_nil))) (pa_cons (pe_xf Y.t15.xf Y.f15 hz.zc hd (pv 3)) pa_nil))))))
    (L2N.HdsA.cons (i := 3) ⟨by rfl, by decide, .inl Y.m1⟩ rfl rfl (fun a oe cls d pn hz hd => pss_one (ps_ret (pe_op op_cat (pe_callE F2 ((L2H.roomH_of hr).mono (by decide)) hz hd (by rfl) g2 k2 b2' (pa_cons (pv 3) pa_nil)) (pe_lst (pa_cons (pe_callB (call_isXC hz.zc hd List.mem_cons_self) (by rfl) Y.isinstance (by decide +kernel) (pa_cons (pv 3) (pa_cons (pe_glob (v := .ref (c 19)) rfl Y.m19 rfl) pa_nil))) pa_nil)))))
    L2N.HdsA.nil)))), ?_⟩
  refine ⟨_, rfl, _, rfl, _, rfl, b0, b1, b2, a0, a1, a2, r0, r1, r2, e0, e1, e2, rfl, B0, B1, B2, u1, u2, fun h => ?_, fun h1 h2 => ?_⟩
  · exact ⟨false, Y.eMC, (fun h => nomatch h), fun _ => ⟨false, Y.eML, (fun h => nomatch h), fun _ => ⟨true, Y.eMT, fun _ a ha => cl0_ok Y.t3 (by decide) Y.kMC rfl (eM h), fun h => nomatch h⟩⟩⟩
  obtain ⟨h64, qC, qK⟩ := q h1 h2
  refine ⟨h64, fun hne => ?_, fun he => ⟨fun h100 => ?_, fun h100 p H' s' bn => ⟨by show 1 ≤ sizeLine; decide, fun l hl => ?_⟩⟩⟩
  · exact fun d t H' ys s' nd nt pm so ht hd => ⟨true, Y.eCC, fun _ a ha => cl_ok Y.t19 (by decide) hd Y.kCC rfl (fun l H'' s'' hl => qC hne l t H'' ys (s'.trans s'') pm so (s'' _ _ ht) hl), fun h => nomatch h⟩
  · exact fun d H' s' nd hd => ⟨false, Y.eLC, (fun h => nomatch h), fun _ => ⟨true, Y.eLL, fun _ a ha => cl_ok Y.t15 (by decide) hd Y.kLC rfl (((qK he).1 h100).mono s'), fun h => nomatch h⟩⟩
  · have s2 := same_new hl (.lst [.ref p])
    exact (qK he).2 h100 l p _ (s'.trans s2) (bn.mono s2) upd_same
end
end W8

set_option Elab.async false
set_option linter.all false
set_option maxRecDepth 100000
set_option maxHeartbeats 4000000
namespace W8
open PySem PySem.Spec PyProof.Rows L2 L2E
def ordStep (found : List (List Nat)) (n : List Nat) : List (List Nat) := found.filter (fun x => decide (x < n)) ++ [n] ++ found.filter (fun x => decide (n < x))
def ordE (ns : List (List Nat)) : List (List Nat) := ns.foldl ordStep []
theorem lt_tri {a b : List Nat} (h : a ≠ b) : decide (b < a) = !decide (a < b) := by
  by_cases g : a < b
  · rw [decide_eq_true g, decide_eq_false (List.lt_asymm g)]; rfl
  · rw [decide_eq_false g]
    by_cases g2 : b < a
    · rw [decide_eq_true g2]; rfl
    · exact absurd (List.le_antisymm (List.not_lt.mp g2) (List.not_lt.mp g)) h
theorem ordStep_ok {found : List (List Nat)} {n : List Nat} (h1 : found.Pairwise (· < ·)) (h2 : n ∉ found) : (ordStep found n).Pairwise (· < ·) ∧ (ordStep found n).Perm (n :: found) := by
  unfold ordStep
  refine ⟨?_, ?_⟩
  · refine List.pairwise_append.mpr ⟨List.pairwise_append.mpr ⟨h1.sublist List.filter_sublist, List.pairwise_singleton _ _, fun a ha b hb => ?_⟩, h1.sublist List.filter_sublist, fun a ha b hb => ?_⟩
    · rw [List.mem_singleton.mp hb]
      exact of_decide_eq_true (List.mem_filter.mp ha).2
    · have hb2 : n < b := of_decide_eq_true (List.mem_filter.mp hb).2
      rcases List.mem_append.mp ha with g | g
      · have ha2 : a < n := of_decide_eq_true (List.mem_filter.mp g).2
        exact List.lt_trans ha2 hb2
      · rw [List.mem_singleton.mp g]; exact hb2
  · have e : found.filter (fun x => decide (n < x)) = found.filter (fun x => !decide (x < n)) := List.filter_congr fun x hx => lt_tri (fun z => h2 (z ▸ hx))
    rw [e, List.append_assoc]
    exact List.perm_middle.trans ((List.filter_append_perm _ _).cons n)
theorem ord_ok : ∀ (ns found : List (List Nat)), found.Pairwise (· < ·) → (∀ n ∈ ns, n ∉ found) → ns.Nodup → (ns.foldl ordStep found).Pairwise (· < ·) ∧ (ns.foldl ordStep found).Perm (found ++ ns)
  | [], found, h, _, _ => ⟨h, by rw [List.append_nil]; exact List.Perm.refl _⟩
  | n :: ns, found, h, hn, hd => by
    obtain ⟨s1, s2⟩ := ordStep_ok h (hn n List.mem_cons_self)
    rw [List.nodup_cons] at hd
    obtain ⟨g1, g2⟩ := ord_ok ns (ordStep found n) s1 (fun m hm z => by
      rcases List.mem_cons.mp (s2.mem_iff.mp z) with y | y
      · rw [y] at hm; exact hd.1 hm
      · exact hn m (List.mem_cons_of_mem _ hm) y) hd.2
    refine ⟨g1, g2.trans ?_⟩
    exact (s2.append_right ns).trans List.perm_middle.symm
theorem perm_sorted_eq {α : Type} {R : α → α → Prop} (anti : ∀ a b, R a b → R b a → a = b) : ∀ {xs ys : List α}, xs.Perm ys → xs.Pairwise R → ys.Pairwise R → xs = ys
  | [], ys, p, _, _ => p.symm.eq_nil.symm
  | x :: xs, [], p, _, _ => absurd p.eq_nil (by simp)
  | x :: xs, y :: ys, p, hx, hy => by
    rw [List.pairwise_cons] at hx hy
    have e : x = y := by
      rcases List.mem_cons.mp (p.mem_iff.mp (List.mem_cons_self)) with z | z
      · exact z
      · rcases List.mem_cons.mp (p.mem_iff.mpr (List.mem_cons_self (a := y))) with z2 | z2
        · exact z2.symm
        · exact anti x y (hx.1 y z2) (hy.1 x z)
    subst e
    rw [perm_sorted_eq anti p.cons_inv hx.2 hy.2]
abbrev leS (a b : Str) : Prop := ¬ (b.cps.toList < a.cps.toList)
theorem leS_trans {a b c : Str} (h1 : leS a b) (h2 : leS b c) : leS a c := by
  intro h
  by_cases g : b.cps.toList = c.cps.toList
  · exact h1 (g ▸ h)
  · have g2 := lt_tri g
    by_cases g3 : b.cps.toList < c.cps.toList
    · exact h1 (List.lt_trans g3 h)
    · rw [decide_eq_false g3] at g2
      exact h2 (of_decide_eq_true g2)
theorem rising_pw : ∀ {xs : List Str} {p : Str}, risingS p xs = true → (p :: xs).Pairwise leS
  | [], p, _ => List.pairwise_singleton _ _
  | x :: r, p, h => by
    unfold risingS at h
    rw [Bool.and_eq_true] at h
    have h1 : leS p x := fun z => by
      rw [ltCps_eq, decide_eq_true z] at h
      cases h.1
    have ih := rising_pw h.2
    rw [List.pairwise_cons] at ih ⊢
    refine ⟨fun y hy => ?_, List.pairwise_cons.mpr ih⟩
    rcases List.mem_cons.mp hy with z | z
    · rw [z]; exact h1
    · exact leS_trans h1 (ih.1 y z)
theorem sorted_pw {xs : List Str} (h : sortedS xs = true) : xs.Pairwise leS := by
  cases xs with
  | nil => exact List.Pairwise.nil
  | cons x r => exact rising_pw h
theorem leS_anti (a b : Str) (h1 : leS a b) (h2 : leS b a) : a = b := by
  have e : a.cps.toList = b.cps.toList := List.le_antisymm (List.not_lt.mp h1) (List.not_lt.mp h2)
  rw [S_of a, S_of b, e]
/-- sorted by either -/
theorem sorted_ord {ns : List (List Nat)} {ys : List Str} (hd : ns.Nodup) (pm : ys.Perm (ns.map S)) (so : sortedS ys = true) : ys = (ordE ns).map S := by
  obtain ⟨g1, g2⟩ := ord_ok ns [] List.Pairwise.nil (fun _ _ h => nomatch h) hd
  refine perm_sorted_eq leS_anti (pm.trans (g2.map S).symm) (sorted_pw so) ?_
  rw [List.pairwise_map]
  exact g1.imp fun {a b} h => List.lt_asymm h
end W8

set_option Elab.async false
set_option linter.all false
set_option maxRecDepth 100000
set_option maxHeartbeats 4000000
namespace W8
open PySem PySem.Spec PyProof.Rows L2 L2E
abbrev sOrd : Stmt := top 70
theorem scOrd : FnScope ["names", "found", "name", "item"] ["names"] (defScope sOrd) := ⟨rfl, rfl, rfl, by decide +kernel, rfl, by decide +kernel, by decide +kernel⟩
def spOrd : Sp := fun vs H Q _ => ∃ (l : Addr) (ns : List (List Nat)), vs = [.ref l] ∧ H l = some (.lst (sgs ns)) ∧ ns.length ≤ 200 ∧ ns.Nodup ∧ ∀ l' H', Same H H' → H' l' = some (.lst (sgs (ordE ns))) → Q (.ref l') H'
abbrev sIs : Stmt := top 71
theorem scIs : FnScope ["made", "letters", "pairs", "pair"] ["made", "letters", "pairs"] (defScope sIs) := ⟨rfl, rfl, rfl, by decide +kernel, rfl, by decide +kernel, by decide +kernel⟩
def spIs (C CP : Addr) : Sp := fun vs H Q _ => ∃ (m p l : Addr) (al : List Nat) (es : List Ent), vs = [.ref m, .str (S al), .ref l] ∧ H m = some (.lst [.ref p]) ∧ BookE H p C CP al 100 es ∧ Uniq es ∧ Prs H l es ∧ ∀ H', Same H H' → Q (.bl true) H'
theorem sgs_len (ns : List (List Nat)) : (sgs ns).length = ns.length := by unfold sgs; rw [List.length_map]
def rLtS : R2 := fun x y H Q => ∃ i j, x = .str i ∧ y = .str j ∧ Q (.bl (decide (i.cps.toList < j.cps.toList))) H
theorem op_ltS {X : Cx} : OpR X (compareOp .Lt) rLtS := op_lt_str
section
variable {P : Program} {w : World} {K : PySem.W.Frag} {mg : Str → Option Value} {base : Heap}
theorem ok_ord {f : Addr} {fd : FuncData} (F : Fun K "_law_ordered" "_law_ordered" sOrd f fd) : FnOk P w K mg base CX0 1 f fd ["names"] spOrd := by
  refine F.ok scOrd (fun vs H Q E h => ?_) (fun cdv A outer s H vs Q E hr h => ?_)
  · obtain ⟨l, ns, rfl, _⟩ := h
    rfl
  obtain ⟨l, ns, rfl, hl, hlen, hnd, q⟩ := h
  refine ⟨_, (pss_cons (ps_set (i := 1) scOrd.nd rfl (Or.inl rfl) (pe_lst pa_nil))
    (pss_cons (ps_for PassesOwn.never rfl (pi_list (pv 0)) (pg_name (i := 2) scOrd.nd rfl (Or.inr rfl))
      (pss_one (ps_set (i := 1) scOrd.nd rfl (Or.inl rfl) (pe_op op_cat (pe_op op_cat (pe_lc (own := [("item", 3)]) (g := gName 3) (tt := tTest (tOp rLtS (tVar 3) (tVar 2))) rfl scOrd.nd (pi_list (pv 1)) (blkOk_by (own := [("item", 3)]) (N := ["names", "found", "name", "item"]) (sc := defScope sOrd) (by decide +kernel)) (fun _ _ _ _ _ => (pg_name (i := 3) scOrd.nd rfl (Or.inl rfl))) (fun _ _ _ _ _ => (pts_one (pt_cmpR op_ltS (pv 3) (pv 2) (nomark _)))) (fun _ _ _ _ _ => (pv 3))) (pe_lst (pa_cons (pv 2) pa_nil))) (pe_lc (own := [("item", 3)]) (g := gName 3) (tt := tTest (tOp rLtS (tVar 2) (tVar 3))) rfl scOrd.nd (pi_list (pv 1)) (blkOk_by (own := [("item", 3)]) (N := ["names", "found", "name", "item"]) (sc := defScope sOrd) (by decide +kernel)) (fun _ _ _ _ _ => (pg_name (i := 3) scOrd.nd rfl (Or.inl rfl))) (fun _ _ _ _ _ => (pts_one (pt_cmpR op_ltS (pv 2) (pv 3) (nomark _)))) (fun _ _ _ _ _ => (pv 3)))))))
    (pss_one (ps_ret (pv 1))))), ?_⟩
  have ok : ∀ i, ((ns.take i).foldl ordStep []).Pairwise (· < ·) ∧ ((ns.take i).foldl ordStep []).Perm ([] ++ ns.take i) := fun i => ord_ok (ns.take i) [] List.Pairwise.nil (fun _ _ h => nomatch h) (hnd.sublist (List.take_sublist i ns))
  have okl : ∀ i, ((ns.take i).foldl ordStep []).length ≤ 200 := fun i => by
    rw [(ok i).2.length_eq, List.nil_append, List.length_take]
    omega
  refine ⟨Nat.zero_le _, fun l0 hl0 => ?_⟩
  refine ⟨_, rfl, l, rfl, ⟨_, SqL.of (same_new hl0 _ _ _ hl)⟩, ?_⟩
  refine L2.for_it (L2.walk_list (xs := sgs ns)) (fun i σ H' => ∃ (fo : Addr) (x y : Option V), σ = [some (.ref l), some (.ref fo), x, y] ∧ Same H H' ∧ H' fo = some (.lst (sgs ((ns.take i).foldl ordStep [])))) ⟨l0, none, none, rfl, same_new hl0 _, upd_same⟩ (fun _ _ _ _ ⟨_, _, _, _, s, _⟩ => SqL.of (s _ _ hl)) ?_ ?_
  · rintro i x σ H1 H2 hi ⟨fo, x1, y1, rfl, s1, hf⟩ ⟨rfl, hx⟩
    replace hx : (sgs ns)[i]? = some x := hx
    unfold sgs at hx
    rw [List.getElem?_map] at hx
    cases hn : ns[i]? with
    | none => rw [hn] at hx; cases hx
    | some n =>
      rw [hn] at hx
      cases hx
      have hst : (ns.take (i + 1)).foldl ordStep [] = ordStep ((ns.take i).foldl ordStep []) n := by
        rw [List.take_add_one, hn, List.foldl_append]
        rfl
      have fl := okl i
      generalize (ns.take i).foldl ordStep [] = fs at *
      have fll : ∀ p : List Nat → Bool, (fs.filter p).length ≤ 200 := fun p => Nat.le_trans (List.length_filter_le _ _) fl
      have one : ∀ (p : List Nat → Bool) (i : Nat), ((fs.take i).filter p).length ≤ 200 := fun p i => by
        have := List.length_filter_le p (fs.take i)
        rw [List.length_take] at this
        omega
      refine ⟨_, rfl, fo, rfl, ⟨_, SqL.of hf⟩, fun L hL => ?_⟩
      refine L2.lc_it (L2.walk_list (xs := sgs fs)) (fun j H' => Same H2 H' ∧ H' L = some (.lst (sgs ((fs.take j).filter fun x => decide (x < n))))) ⟨same_new hL _, upd_same⟩ (fun _ _ _ ⟨s, _⟩ => SqL.of (s _ _ hf)) ?_ ?_
      · rintro j x H3 H4 hj ⟨s3, hL3⟩ ⟨rfl, hx⟩
        unfold sgs at hx
        rw [List.getElem?_map] at hx
        cases hm : fs[j]? with
        | none => rw [hm] at hx; cases hx
        | some m =>
          rw [hm] at hx
          cases hx
          refine ⟨rfl, _, rfl, _, rfl, S m, S n, rfl, rfl, _, rfl, ?_⟩
          have ft : (fs.take (j + 1)).filter (fun x => decide (x < n)) = (fs.take j).filter (fun x => decide (x < n)) ++ if decide (m < n) = true then [m] else [] := by
            rw [List.take_add_one, hm, List.filter_append]
            show _ ++ List.filter _ [m] = _
            rw [List.filter_cons]
            rfl
          refine ite2 (fun h => ?_) (fun h => ?_)
          · refine ⟨_, rfl, _, hL3, small_lt (by rw [sgs_len]; have := one (fun x => decide (x < n)) j; omega), same_upd s3 hL, ?_⟩
            rw [upd_same, ft, if_pos (show decide (m < n) = true from h), sgs_app]
            rfl
          · refine ⟨s3, ?_⟩
            rw [hL3, ft, if_neg (show ¬ decide (m < n) = true from h), List.append_nil]
      rintro H3 ⟨s3, hL3⟩
      rw [sgs_len, List.take_length] at hL3
      refine ⟨_, rfl, by show 1 ≤ sizeLine; decide, fun o ho => ?_⟩
      have s4 := s3.trans (same_new ho (.lst [.str (S n)]))
      have hL4 := same_new ho (.lst [.str (S n)]) _ _ hL3
      refine ⟨L, o, _, _, rfl, rfl, hL4, upd_same, by rw [sgs_len]; have := fll (fun x => decide (x < n)); exact sz (by show _ + 1 ≤ _; omega), fun M hM => ?_⟩
      have s5 := s4.trans (same_new hM (.lst (sgs (fs.filter fun x => decide (x < n)) ++ [.str (S n)])))
      have hM5 : upd (upd H3 o (.lst [.str (S n)])) M (.lst (sgs (fs.filter fun x => decide (x < n)) ++ [.str (S n)])) M = some (.lst (sgs ((fs.filter fun x => decide (x < n)) ++ [n]))) := by rw [upd_same, sgs_app]; rfl
      generalize upd (upd H3 o (.lst [.str (S n)])) M (.lst (sgs (fs.filter fun x => decide (x < n)) ++ [.str (S n)])) = H5 at *
      clear hL hL3 hL4 ho hM s3 s4
      have hf5 := s5 _ _ hf
      refine ⟨_, rfl, fo, rfl, ⟨_, SqL.of hf5⟩, fun L hL => ?_⟩
      refine L2.lc_it (L2.walk_list (xs := sgs fs)) (fun j H' => Same H5 H' ∧ H' L = some (.lst (sgs ((fs.take j).filter fun x => decide (n < x))))) ⟨same_new hL _, upd_same⟩ (fun _ _ _ ⟨s, _⟩ => SqL.of (s _ _ hf5)) ?_ ?_
      · rintro j x H3 H4 hj ⟨s3, hL3⟩ ⟨rfl, hx⟩
        unfold sgs at hx
        rw [List.getElem?_map] at hx
        cases hm : fs[j]? with
        | none => rw [hm] at hx; cases hx
        | some m =>
          rw [hm] at hx
          cases hx
          refine ⟨rfl, _, rfl, _, rfl, S n, S m, rfl, rfl, _, rfl, ?_⟩
          have ft : (fs.take (j + 1)).filter (fun x => decide (n < x)) = (fs.take j).filter (fun x => decide (n < x)) ++ if decide (n < m) = true then [m] else [] := by
            rw [List.take_add_one, hm, List.filter_append]
            show _ ++ List.filter _ [m] = _
            rw [List.filter_cons]
            rfl
          refine ite2 (fun h => ?_) (fun h => ?_)
          · refine ⟨_, rfl, _, hL3, small_lt (by rw [sgs_len]; have := one (fun x => decide (n < x)) j; omega), same_upd s3 hL, ?_⟩
            rw [upd_same, ft, if_pos (show decide (n < m) = true from h), sgs_app]
            rfl
          · refine ⟨s3, ?_⟩
            rw [hL3, ft, if_neg (show ¬ decide (n < m) = true from h), List.append_nil]
      rintro H6 ⟨s6, hL6⟩
      rw [sgs_len, List.take_length] at hL6
      refine ⟨M, L, _, _, rfl, rfl, s6 _ _ hM5, hL6, by rw [sgs_len, sgs_len, List.length_append]; have := fll (fun x => decide (x < n)); have := fll (fun x => decide (n < x)); exact sz (by show _ + 1 + _ ≤ _; omega), fun R hR => ?_⟩
      refine ⟨R, _, _, rfl, s1.trans (s5.trans (s6.trans (same_new hR _))), ?_⟩
      rw [upd_same, hst, ← sgs_app]
      rfl
  · rintro σ H1 ⟨fo, x1, y1, rfl, s1, hf⟩
    rw [sgs_len, List.take_length] at hf
    exact ⟨_, rfl, q fo H1 s1 hf⟩
theorem dp_sgs {H : Hp} : ∀ ns : List (List Nat), DpAll K H (sgs ns) (ns.map fun n => PyData.str (S n))
  | [] => .nil
  | n :: ns => .cons (.str _) (dp_sgs ns)
/-- what isinstance(x, Book) asks -/
structure BkI (K : PySem.W.Frag) (mg : Str → Option Value) (C p g : Addr) : Prop where
  ha : PySem.W.findIn K (.ref C) "__class__" = some (some (.builtin "object.__class__"))
  hn : PySem.W.specialIn K (.builtin "object.__class__") "__get__" = some (some (.builtin "getset_descriptor.__get__"))
  htk : PySem.W.takesIn K (.builtin "object.__class__") = some true
  hm : PySem.W.mroIn K C (.type "object") = some true
  kt : PySem.W.kitOne K (.ref C) (.ref C) = some true
  rm : PropOf K C "room" p g
theorem ok_is {c : Nat → Addr} {f C CP p0 g : Addr} {fd fdg : FuncData} (F : Fun K "_law_is" "_law_is" sIs f fd) (T : BkT K mg C) (S0 : SameT mg) (I : BkI K mg C p0 g) (M : BkM P w K mg base c C CP) (G : FnOk P w K mg base CX0 1 g fdg ["self"] (getSp C "_room")) (bg : Binds K fdg ["self"] []) (mw : MCal P w K mg base C "written" 1 ["self"] (spBWritten C CP))
    (c_law_lines : Cal P w K mg base "_law_lines" 1 ["pairs"] spLines) (c_law_same : Cal P w K mg base "_law_same" 4 ["actual", "expected"] (spSame K 4)) : FnOk P w K mg base CX0 5 f fd ["made", "letters", "pairs"] (spIs C CP) := by
  refine F.ok scIs (fun vs H Q E h => ?_) (fun cdv A outer s H vs Q E hr h => ?_)
  · obtain ⟨m, p, l, al, es, rfl, _⟩ := h
    rfl
  obtain ⟨m, p, l, al, es, rfl, hm, ⟨dx, td, pd, f1, f2, B⟩, un, ⟨ts, hl, ht⟩, q⟩ := h
  obtain ⟨fi, fdi, Fi, mi, bi⟩ := M.it
  obtain ⟨fl, fdl, Fl, ml, bl⟩ := M.len.ex
  obtain ⟨fw, fdw, Fw, mw, bw⟩ := mw.ex
  refine ⟨_, (pss_cons (ps_if (PW.pt (pw_or (pt_cmpR op_ne (pB1 call_len_seq T.len (pv 0)) pe_int (nomark _)) (pw_or1 (pt_not (pt_val (pe_callB call_isi (by rfl) S0.isinstance (by decide +kernel) (pa_cons (pixL (pv 0) pe_int) (pa_cons (pe_glob (v := .ref C) rfl T.mgC rfl) pa_nil))))))))
      (pss_one (ps_ret pe_bl))
      pss_nil)
    (pss_cons (ps_if (pt_not (pt_truth (pcall c_law_same hr (pa_cons (pe_lst (pa_cons (pe_fld (pixL (pv 0) pe_int) rfl) (pa_cons (pe_prop (dvs := []) (E := E0) (pixL (pv 0) pe_int) T.cl I.rm G (hr.mono (by decide)) bg .nil pass0 rfl) (pa_cons (pe_lock (pT1 (call_listOwnD rfl Fi mi bi Fl ml bl hr) S0.list (pixL (pv 0) pe_int))) pa_nil)))) (pa_cons (pe_lst (pa_cons (pv 1) (pa_cons pe_int (pa_cons (pe_lc (te := tIx K 3 0) (own := [("pair", 3)]) (g := gName 3) (tt := tYes) rfl scIs.nd (pi_list (pv 2)) (blkOk_by (own := [("pair", 3)]) (N := ["made", "letters", "pairs", "pair"]) (sc := defScope sIs) (by decide +kernel)) (fun _ _ _ _ _ => (pg_name (i := 3) scIs.nd rfl (Or.inl rfl))) (fun _ _ _ _ _ => pts_nil) (fun _ _ _ _ _ => (pixT (pv 3) pe_int))) pa_nil)))) pa_nil))) (by intro _; rfl)))
      (pss_one (ps_ret pe_bl))
      pss_nil)
    (pss_one (ps_ret (pcall c_law_same hr (pa_cons (pe_meth0 (pixL (pv 0) pe_int) T.cl mw Fw (hr.mono (by decide)) bw .nil pass0) (pa_cons (pcall c_law_lines hr (pa_cons (pv 2) pa_nil)) pa_nil))))))), ?_⟩
  have l100 := B.l
  have hlt : ts.length = es.length := Paired.length ht
  refine ⟨_, rfl, m, _, rfl, .inl (SqL.of hm), rfl, _, rfl, ?_⟩
  refine ite2 (fun z => (by cases z)) (fun _ => ?_)
  refine ⟨_, rfl, m, _, _, _, rfl, rfl, SqL.of hm, rfl, _, _, _, _, _, rfl, .own C, .base (.ins B.o T.cl I.ha I.hn I.htk I.hm), I.kt, _, rfl, ?_⟩
  refine ite2 (fun z => (by cases z)) (fun _ => ?_)
  have npt : p ≠ td := ne_of B.o B.t (fun z => nomatch z)
  have nmt : m ≠ td := ne_of hm B.t (fun z => nomatch z)
  refine ⟨_, rfl, m, _, _, _, rfl, rfl, SqL.of hm, rfl, p, C, dx, _, _, rfl, B.o, T.cl, T.nL, bk_letters _ _ _ _ _ _, _, rfl, m, _, _, _, rfl, rfl, SqL.of hm, rfl, p, dx, _, rfl, B.o, p, dx, _, _, rfl, B.o, bk_room _ _ _ _ _ _, ?_⟩
  refine ⟨td, _, B.t, trivial, fun od => ⟨_, rfl, m, _, _, _, rfl, rfl, SqL.of (by rw [upd_ne nmt]; exact hm), rfl, p, dx, _, td, od, tkv es, rfl, by rw [upd_ne npt]; exact B.o, bk_texts _ _ _ _ _ _, upd_same, sz (by rw [tkv_len]; omega), fun H' hH' => ?_, fun L hL => ⟨?_, ?_⟩⟩⟩
  · exact ⟨p, dx, td, pd, f1, f2, al, 100, es, rfl, ⟨hH' _ _ (by rw [upd_ne npt]; exact B.o), .inr ⟨od, hH' _ _ upd_same⟩⟩, es.length, rfl, sz (by omega), rfl⟩
  · rw [upd_ne (ne_of_none upd_same hL)]
    exact upd_same
  have s1 : Same H (upd (upd (upd H td (.frz od (.dK (tkv es)))) L (.lst ((tkv es).map fun kv => kV kv.1))) td (.dK (tkv es))) := lock_same B.t (same_new hL _)
  have hL1 : upd (upd (upd H td (.frz od (.dK (tkv es)))) L (.lst ((tkv es).map fun kv => kV kv.1))) td (.dK (tkv es)) L = some (.lst (sgs (es.map (·.1)))) := by
    rw [upd_ne (Ne.symm (ne_of_none upd_same hL)), upd_same]
    unfold tkv sgs
    rw [List.map_map, List.map_map]
    rfl
  generalize upd (upd (upd H td (.frz od (.dK (tkv es)))) L (.lst ((tkv es).map fun kv => kV kv.1))) td (.dK (tkv es)) = H1 at *
  clear hL
  refine ⟨by show 3 ≤ sizeLine; decide, fun x hx => ?_⟩
  have s2 := same_new hx (.lst [.str (S al), .int ((100 : Nat) : Int), .ref L])
  have hx2 : upd H1 x (.lst [.str (S al), .int ((100 : Nat) : Int), .ref L]) x = some (.lst [.str (S al), .int ((100 : Nat) : Int), .ref L]) := upd_same
  generalize upd H1 x (.lst [.str (S al), .int ((100 : Nat) : Int), .ref L]) = H2 at *
  clear hx
  have s12 := s1.trans s2
  have hl2 := s12 _ _ hl
  refine ⟨_, rfl, _, rfl, l, rfl, ⟨_, SqL.of hl2⟩, fun N hN => ?_⟩
  refine L2.lc_it (L2.walk_list (xs := ts.map V.ref)) (fun i H' => Same H2 H' ∧ H' N = some (.lst (sgs ((es.take i).map (·.1))))) ⟨same_new hN _, upd_same⟩ (fun _ _ _ ⟨s, _⟩ => SqL.of (s _ _ hl2)) ?_ ?_
  · rintro i y H3 H4 hi ⟨s3, hN3⟩ ⟨rfl, hy⟩
    obtain ⟨t, e, rfl, hti, hei, hat⟩ := prs_get ht hy
    refine ⟨rfl, _, rfl, t, _, _, _, rfl, rfl, SqT.of (s3 _ _ (s12 _ _ hat)), at0 _ _, _, hN3, small_lt (by rw [sgs_len, List.length_map, List.length_take]; omega), same_upd s3 hN, ?_⟩
    rw [upd_same, List.take_add_one, hei, List.map_append, sgs_app]
    rfl
  rintro H3 ⟨s3, hN3⟩
  rw [List.length_map, hlt, List.take_length] at hN3
  refine ⟨by show 3 ≤ sizeLine; decide, fun y hy => ?_⟩
  have s4 := same_new hy (.lst [.str (S al), .int 100, .ref N])
  have hy4 : upd H3 y (.lst [.str (S al), .int 100, .ref N]) y = some (.lst [.str (S al), .int 100, .ref N]) := upd_same
  generalize upd H3 y (.lst [.str (S al), .int 100, .ref N]) = H4 at *
  have hL4 := s4 _ _ (s3 _ _ (s2 _ _ hL1))
  have hx4 := s4 _ _ (s3 _ _ hx2)
  have hN4 := s4 _ _ hN3
  refine ⟨.ref x, .ref y, .list [.str (S al), .int 100, .list ((es.map (·.1)).map fun n => .str (S n))], .list [.str (S al), .int 100, .list ((es.map (·.1)).map fun n => .str (S n))], rfl, .lst (SqL.of hx4) (.cons (.str _) (.cons (.int _) (.cons (.lst (SqL.of hL4) (dp_sgs _)) .nil))), .lst (SqL.of hy4) (.cons (.str _) (.cons (.int _) (.cons (.lst (SqL.of hN4) (dp_sgs _)) .nil))), ?_, fun b H5 s5 hb => ?_⟩
  · refine ⟨by show 3 ≤ 100000; decide, fun d hd => ?_⟩
    rcases List.mem_cons.mp hd with rfl | hd
    · trivial
    rcases List.mem_cons.mp hd with rfl | hd
    · trivial
    rw [List.mem_singleton.mp hd]
    refine ⟨by rw [List.length_map, List.length_map]; omega, fun d hd => ?_⟩
    obtain ⟨n, _, rfl⟩ := List.mem_map.mp hd
    trivial
  have hb1 := hb.mpr rfl
  subst hb1
  refine ⟨_, rfl, ?_⟩
  refine ite2 (fun z => (by cases z)) (fun _ => ?_)
  have s05 : Same H H5 := s12.trans (s3.trans (s4.trans s5))
  have B5 := B.mono s05
  refine ⟨_, rfl, m, _, _, _, rfl, rfl, SqL.of (s05 _ _ hm), rfl, p, dx, _, rfl, B5.o, bk_no _ _ _ _ _ _ (by decide +kernel), p, dx, td, pd, f1, f2, al, 100, es, rfl, B5, un, fun H6 s6 => ?_⟩
  have s06 := s05.trans s6
  refine ⟨_, rfl, l, es, rfl, Prs.mono ⟨ts, hl, ht⟩ s06, by omega, fun e he => ⟨(B.v e he).1.n12, (B.v e he).2⟩, fun H7 s7 => ?_⟩
  refine ⟨_, _, .str (Txt.join "\n" (es.map lineE)), .str (Txt.join "\n" (es.map lineE)), rfl, .str _, .str _, trivial, fun b H8 s8 hb => ?_⟩
  have hb1 := hb.mpr rfl
  subst hb1
  exact q _ (s06.trans (s7.trans s8))
end
end W8

set_option Elab.async false
set_option linter.all false
set_option maxRecDepth 100000
set_option maxHeartbeats 4000000
namespace W8
open PySem PySem.Spec PyProof.Rows L2 L2E
theorem name_small {n : List Nat} (h : NameOk n) : ∀ c ∈ n, c < 128 := fun c hc => by
  rcases h.all c hc with g | g
  · unfold small at g
    obtain ⟨k, hk, rfl⟩ := List.mem_map.mp g
    have := List.mem_range.mp hk
    omega
  · unfold digits at g
    obtain ⟨k, hk, rfl⟩ := List.mem_map.mp g
    have := List.mem_range.mp hk
    omega
theorem strOk_name {n : List Nat} (h : ∀ c ∈ n, c < 128) : PyData.strOk (S n) = true := by
  unfold PyData.strOk
  rw [Array.all_eq_true']
  intro c hc
  have hc' : c ∈ n := by
    have : c ∈ n.toArray := hc
    simpa using this
  exact decide_eq_true (by have := h c hc'; omega)
theorem shaped_names {ns : List (List Nat)} (h : ∀ n ∈ ns, ∀ c ∈ n, c < 128) : SeqAt.shaped (.list (ns.map fun n => PyData.str (S n))) = true := by
  unfold SeqAt.shaped
  rw [Bool.and_eq_true]
  refine ⟨?_, decide_eq_true ?_⟩
  · show PyData.canLayAll0 _ = true
    induction ns with
    | nil => rfl
    | cons n ns ih =>
      rw [List.map_cons]
      show (PyData.strOk (S n) && PyData.canLayAll0 _) = true
      rw [strOk_name (h n List.mem_cons_self), ih fun m hm => h m (List.mem_cons_of_mem _ hm)]
      rfl
  · have e : PyData.depthAll (ns.map fun n => PyData.str (S n)) = 0 := by
      clear h
      induction ns with
      | nil => rfl
      | cons n ns ih =>
        rw [List.map_cons]
        show max 0 (PyData.depthAll _) = 0
        rw [ih]
        rfl
    show PyData.depthAll _ + 1 ≤ 64
    rw [e]
    decide
theorem drop_first {e : Ent} {es : List Ent} (h : Uniq (e :: es)) : dropE (e :: es) e.1 = es := by
  unfold Uniq at h
  rw [List.map_cons, List.nodup_cons] at h
  unfold dropE
  rw [List.filter_cons, if_neg (by simp)]
  refine List.filter_eq_self.mpr fun d hd => decide_eq_true fun z => h.1 (z ▸ List.mem_map.mpr ⟨d, hd, rfl⟩)
theorem uniq_drop {es : List Ent} (h : Uniq es) (i : Nat) : Uniq (es.drop i) := List.Nodup.sublist ((List.drop_sublist i es).map _) h
theorem clash_len (e0 e1 e2 : List Ent) : (clashE e0 e1 e2).length ≤ e1.length + e2.length := by
  unfold clashE clashN namesE
  have := List.length_filter_le (fun n => (pickE e0 e1 e2 n).isNone) (e1.map (·.1) ++ (e2.filter fun e => (toldE e1 e.1).isNone).map (·.1))
  rw [List.length_append, List.length_map, List.length_map] at this
  have h2 := List.length_filter_le (fun e : Ent => (toldE e1 e.1).isNone) e2
  omega
theorem kept_len (e0 e1 e2 : List Ent) : (keptE e0 e1 e2).length ≤ e1.length + e2.length := by
  unfold keptE keptN namesE
  have := List.length_filterMap_le (fun n => oneE n (pickE e0 e1 e2 n)) (e1.map (·.1) ++ (e2.filter fun e => (toldE e1 e.1).isNone).map (·.1))
  rw [List.length_append, List.length_map, List.length_map] at this
  have h2 := List.length_filter_le (fun e : Ent => (toldE e1 e.1).isNone) e2
  omega
theorem clash_nodup {e0 e1 e2 : List Ent} (h1 : Uniq e1) (h2 : Uniq e2) : (clashE e0 e1 e2).Nodup := List.Nodup.sublist List.filter_sublist (names_nodup h1 h2)
theorem clash_ok {al : List Nat} {e0 e1 e2 : List Ent} (h1 : EntsOk al e1) (h2 : EntsOk al e2) : ∀ n ∈ clashE e0 e1 e2, NameOk n := fun n hn => by
  rcases names_mem (List.mem_filter.mp hn).1 with g | g
  · obtain ⟨e, he, rfl⟩ := List.mem_map.mp g
    exact (h1.v e he).1
  · obtain ⟨e, he, rfl⟩ := List.mem_map.mp g
    exact (h2.v e he).1
/-- a list is written: no book is changed -/
theorem BookE.lst {H : Hp} {p C CP B : Addr} {al : List Nat} {room : Nat} {es : List Ent} {xs ys : List V} (h : BookE H p C CP al room es) (hB : H B = some (.lst xs)) : BookE (upd H B (.lst ys)) p C CP al room es := by
  obtain ⟨dx, td, pd, f1, f2, G⟩ := h
  obtain ⟨kps, a, b⟩ := G.q
  have go : ∀ {b : Addr} {u : HO}, H b = some u → (∀ zs, u ≠ .lst zs) → upd H B (.lst ys) b = some u := fun {b u} e n => by rw [upd_ne (fun z => by rw [z, hB] at e; exact n _ (Option.some.inj e).symm)]; exact e
  refine ⟨dx, td, pd, f1, f2, go G.o (fun _ z => nomatch z), go G.t (fun _ z => nomatch z), ⟨kps, go a (fun _ z => nomatch z), Paired.mapP b fun kv e ⟨e1, q, rows, e2, e3, e4⟩ => ⟨e1, q, rows, e2, e3, ?_⟩⟩, G.n, G.A, G.r, G.l, G.v⟩
  obtain ⟨dx', rt, ts, h1, h2, h3⟩ := e4.ex
  exact ⟨dx', rt, ts, go h1 (fun _ z => nomatch z), go h2 (fun _ z => nomatch z), Paired.mapP h3 fun _ _ z => go z (fun _ z => nomatch z)⟩
def joinE (es : List Ent) : Str := Txt.join "\n" (es.map lineE)
theorem ents_len {al : List Nat} {es : List Ent} (h : EntsOk al es) : ∀ e ∈ es, e.1.length ≤ 12 ∧ e.2.length ≤ 200 := fun e he => by
  obtain ⟨h1, rows, h2⟩ := h.v e he
  exact ⟨h1.n12, readP_len h2⟩
abbrev sMrs : Stmt := top 72
theorem scMrs : FnScope ["letters", "base", "one", "other", "books", "due", "made", "name", "pairs", "book"] ["letters", "base", "one", "other"] (defScope sMrs) := ⟨rfl, rfl, rfl, by decide +kernel, rfl, by decide +kernel, by decide +kernel⟩
def spMrs : Sp := fun vs H Q _ => ∃ (l0 l1 l2 : Addr) (al : List Nat) (e0 e1 e2 : List Ent), vs = [.str (S al), .ref l0, .ref l1, .ref l2] ∧ AlphOk al ∧ Prs H l0 e0 ∧ Prs H l1 e1 ∧ Prs H l2 e2 ∧ EntsOk al e0 ∧ EntsOk al e1 ∧ EntsOk al e2 ∧ e0.length ≤ 20 ∧ e1.length ≤ 20 ∧ e2.length ≤ 20 ∧ ∀ H', Same H H' → Q (.bl true) H'
theorem dp_strs {K : PySem.W.Frag} {H : Hp} : ∀ ys : List Str, DpAll K H (ys.map V.str) (ys.map PyData.str)
  | [] => .nil
  | y :: ys => .cons (.str _) (dp_strs ys)
section
variable {P : Program} {w : World} {K : PySem.W.Frag} {mg : Str → Option Value} {base : Heap}
theorem ok_mrs {c : Nat → Addr} {f C CP : Addr} {fd : FuncData} (F : Fun K "_law_merges" "_law_merges" sMrs f fd) (T : BkT K mg C) (S0 : SameT mg) (M : BkM P w K mg base c C CP) (mw : MCal P w K mg base C "written" 1 ["self"] (spBWritten C CP)) (md : MCalX P w K mg base C "drop" 3 ["self", "name"] (spBDrop c C CP))
    (c_book : Cal P w K mg base "_law_book" 9 ["letters", "pairs", "room"] (spBook C CP)) (c_due : Cal P w K mg base "_law_due" 2 ["base", "one", "other"] spDue) (c_mgd : Cal P w K mg base "_law_merged" 10 ["base", "one", "other"] (spLMerged C CP)) (c_ord : Cal P w K mg base "_law_ordered" 1 ["names"] spOrd)
    (c_is : Cal P w K mg base "_law_is" 5 ["made", "letters", "pairs"] (spIs C CP)) (c_lines : Cal P w K mg base "_law_lines" 1 ["pairs"] spLines) (c_same : Cal P w K mg base "_law_same" 4 ["actual", "expected"] (spSame K 4)) : FnOk P w K mg base CX0 11 f fd ["letters", "base", "one", "other"] spMrs := by
  refine F.ok scMrs (fun vs H Q E h => ?_) (fun cdv A outer sh H vs Q E hr h => ?_)
  · obtain ⟨l0, l1, l2, al, e0, e1, e2, rfl, _⟩ := h
    rfl
  obtain ⟨l0, l1, l2, al, e0, e1, e2, rfl, hA, P0, P1, P2, O0, O1, O2, z0, z1, z2, q⟩ := h
  obtain ⟨fi, fdi, Fi, mi, bi⟩ := M.it
  obtain ⟨fl, fdl, Fl, ml, bl⟩ := M.len.ex
  obtain ⟨fw, fdw, Fw, mw, bw⟩ := mw.ex
  obtain ⟨fx, fdx, Fx, mx, bx⟩ := md.ex
  have hr1 := hr.mono (show 1 ≤ 10 by decide)
  have tail : ∃ tb, PSs (cxOf CX0 P w K mg base ["letters", "base", "one", "other", "books", "due", "made", "name", "pairs", "book"] "_law_merges" (defScope sMrs) f cdv A outer sh H E).nox ((defBody sMrs).drop 4) tb ∧ ∀ (H1 : Hp) (B b0 b1 b2 : Addr) (x5 x6 x7 x8 x9 : Option V), Same H H1 → H1 B = some (.lst [.ref b0, .ref b1, .ref b2]) → BookE H1 b0 C CP al 20 e0 → BookE H1 b1 C CP al 20 e1 → BookE H1 b2 C CP al 20 e2 →
      tb { nx := fun _ H' => Q .non H', rt := Q } [some (.str (S al)), some (.ref l0), some (.ref l1), some (.ref l2), some (.ref B), x5, x6, x7, x8, x9] H1 := by
    refine ⟨_, (pss_one (ps_ret (pcall c_same hr (pa_cons (pe_lc (te := tMeth C "written" (spBWritten C CP) [] E0 (tVar 9) tNil) (own := [("book", 9)]) (g := gName 9) (tt := tYes) rfl scMrs.nd (pi_list (pv 4)) (blkOk_by (own := [("book", 9)]) (N := ["letters", "base", "one", "other", "books", "due", "made", "name", "pairs", "book"]) (sc := defScope sMrs) (by decide +kernel)) (fun _ _ _ _ _ => (pg_name (i := 9) scMrs.nd rfl (Or.inl rfl))) (fun _ _ _ _ _ => pts_nil) (fun _ _ _ _ _ => (pe_meth0 (pv 9) T.cl mw Fw (by exact hr1) bw .nil pass0))) (pa_cons (pe_lst (pa_cons (pcall c_lines hr (pa_cons (pv 1) pa_nil)) (pa_cons (pcall c_lines hr (pa_cons (pv 2) pa_nil)) (pa_cons (pcall c_lines hr (pa_cons (pv 3) pa_nil)) pa_nil)))) pa_nil))))), fun H1 B b0 b1 b2 x5 x6 x7 x8 x9 s1 hB B0 B1 B2 => ?_⟩
    have hbl : ∀ x ∈ [(b0, e0), (b1, e1), (b2, e2)], BookE H1 x.1 C CP al 20 x.2 ∧ Uniq x.2 := fun x hx => by
      rcases List.mem_cons.mp hx with rfl | hx
      · exact ⟨B0, O0.u⟩
      rcases List.mem_cons.mp hx with rfl | hx
      · exact ⟨B1, O1.u⟩
      rw [List.mem_singleton.mp hx]
      exact ⟨B2, O2.u⟩
    have hB' : H1 B = some (.lst ([(b0, e0), (b1, e1), (b2, e2)].map fun x => V.ref x.1)) := hB
    refine ⟨_, rfl, B, rfl, ⟨_, SqL.of hB'⟩, fun L hL => ?_⟩
    refine L2.lc_it (L2.walk_list (xs := [(b0, e0), (b1, e1), (b2, e2)].map fun x => V.ref x.1)) (fun i H' => Same H1 H' ∧ H' L = some (.lst (([(b0, e0), (b1, e1), (b2, e2)].take i).map fun x => V.str (joinE x.2)))) ⟨same_new hL _, upd_same⟩ (fun _ _ _ ⟨s, _⟩ => SqL.of (s _ _ hB')) ?_ ?_
    · rintro i x H3 H4 hi ⟨s3, hL3⟩ ⟨rfl, hx⟩
      rw [List.getElem?_map] at hx
      cases hy : [(b0, e0), (b1, e1), (b2, e2)][i]? with
      | none => rw [hy] at hx; cases hx
      | some y =>
        rw [hy] at hx
        cases hx
        obtain ⟨⟨dx, td, pd, f1, f2, G⟩, hu⟩ := hbl y (List.mem_of_getElem? hy)
        have G3 := G.mono s3
        refine ⟨rfl, _, rfl, y.1, dx, _, rfl, G3.o, bk_no _ _ _ _ _ _ (by decide +kernel), y.1, dx, td, pd, f1, f2, al, 20, y.2, rfl, G3, hu, fun H5 s5 => ?_⟩
        refine ⟨_, s5 _ _ hL3, small_lt (by rw [List.length_map, List.length_take]; show min i 3 < _; omega), same_upd (s3.trans s5) hL, ?_⟩
        rw [upd_same, List.take_add_one, hy, List.map_append]
        rfl
    rintro H3 ⟨s3, hL3⟩
    replace hL3 : H3 L = some (.lst [.str (joinE e0), .str (joinE e1), .str (joinE e2)]) := hL3
    have s13 := s1.trans s3
    refine ⟨_, rfl, l0, e0, rfl, P0.mono s13, by omega, ents_len O0, fun H4 s4 => ?_⟩
    refine ⟨_, rfl, l1, e1, rfl, P1.mono (s13.trans s4), by omega, ents_len O1, fun H5 s5 => ?_⟩
    refine ⟨_, rfl, l2, e2, rfl, P2.mono (s13.trans (s4.trans s5)), by omega, ents_len O2, fun H6 s6 => ?_⟩
    refine ⟨by show 3 ≤ sizeLine; decide, fun y hy => ?_⟩
    have s7 := same_new hy (.lst [.str (joinE e0), .str (joinE e1), .str (joinE e2)])
    have hy7 : upd H6 y (.lst [.str (joinE e0), .str (joinE e1), .str (joinE e2)]) y = some (.lst [.str (joinE e0), .str (joinE e1), .str (joinE e2)]) := upd_same
    have s47 := s4.trans (s5.trans (s6.trans s7))
    refine ⟨.ref L, .ref y, .list [.str (joinE e0), .str (joinE e1), .str (joinE e2)], .list [.str (joinE e0), .str (joinE e1), .str (joinE e2)], rfl, .lst (SqL.of (s47 _ _ hL3)) (.cons (.str _) (.cons (.str _) (.cons (.str _) .nil))), .lst (SqL.of hy7) (.cons (.str _) (.cons (.str _) (.cons (.str _) .nil))), ?_, fun b H8 s8 hb => ?_⟩
    · refine ⟨by show 3 ≤ 100000; decide, fun d hd => ?_⟩
      rcases List.mem_cons.mp hd with rfl | hd
      · trivial
      rcases List.mem_cons.mp hd with rfl | hd
      · trivial
      rw [List.mem_singleton.mp hd]
      trivial
    · have hb1 := hb.mpr rfl
      subst hb1
      exact q _ (s13.trans (s47.trans s8))
  obtain ⟨tb, htb, hk⟩ := tail
  refine ⟨_, (pss_cons (ps_setLc (i := 4) (te := tCall (spBook C CP) [] E0 (tCons (tVar 0) (tCons (tVar 8) (tCons (tC (.int 20)) tNil)))) (own := [("pairs", 8)]) (g := gName 8) (tt := tYes) rfl scMrs.nd rfl rfl (sw_true rfl rfl rfl (by decide +kernel)) (pi_list (pe_lst (pa_cons (pv 1) (pa_cons (pv 2) (pa_cons (pv 3) pa_nil))))) (blkOk_by (own := [("pairs", 8)]) (N := ["letters", "base", "one", "other", "books", "due", "made", "name", "pairs", "book"]) (sc := defScope sMrs) (by decide +kernel)) (fun _ _ _ _ _ => (pg_name (i := 8) scMrs.nd rfl (Or.inl rfl))) (fun _ _ _ _ _ => pts_nil) (fun _ _ _ _ _ => (pcall c_book (by exact hr) (pa_cons (pv 0) (pa_cons (pv 8) (pa_cons pe_int pa_nil))))))
    (pss_cons (ps_set (i := 5) scMrs.nd rfl (Or.inl rfl) (pcall c_due hr (pa_cons (pv 1) (pa_cons (pv 2) (pa_cons (pv 3) pa_nil)))))
    (pss_cons (ps_set (i := 6) scMrs.nd rfl (Or.inl rfl) (pcall c_mgd hr (pa_cons (pixL (pv 4) pe_int) (pa_cons (pixL (pv 4) pe_int) (pa_cons (pixL (pv 4) pe_int) pa_nil)))))
    (pss_cons (ps_if (pt_cmpR (op_neD hr.units) (pixL (pv 5) pe_int) (pe_lst pa_nil) (nomark _))
      (pss_one (ps_if (pt_not (pt_truth (pcall c_same hr (pa_cons (pv 6) (pa_cons (pe_lst (pa_cons pe_str (pa_cons pe_str (pa_cons pe_bl (pa_cons (pT1 call_tuple_of S0.tuple (pcall c_ord hr (pa_cons (pixL (pv 5) pe_int) pa_nil))) pa_nil))))) pa_nil))) (by intro _; rfl)))
        (pss_one (ps_ret pe_bl))
        pss_nil))
      (pss_one (ps_if (pt_not (pt_truth (pcall c_is hr (pa_cons (pv 6) (pa_cons (pv 0) (pa_cons (pixL (pv 5) pe_int) pa_nil)))) (by intro _; rfl)))
        (pss_one (ps_ret pe_bl))
        (pss_one (ps_for PassesOwn.never rfl (pi_list (pe_lock (pT1 (call_listOwnD rfl Fi mi bi Fl ml bl (hr.mono (by decide))) S0.list (pixL (pv 6) pe_int)))) (pg_name (i := 7) scMrs.nd rfl (Or.inl rfl))
          (pss_one (ps_expr (pe_meth (E := EN) (pixL (pv 6) pe_int) T.cl mx Fx (hr.mono (by decide)) bx .nil passN (pa_cons (pv 7) pa_nil)))))))))
    htb)))), ?_⟩
  -- books
  refine ⟨_, rfl, _, rfl, _, rfl, by show 3 ≤ sizeLine; decide, fun m hm => ⟨m, rfl, ⟨_, SqL.of upd_same⟩, fun B hB => ?_⟩⟩
  have sm := same_new hm (.lst [.ref l0, .ref l1, .ref l2])
  have hm1 : upd H m (.lst [.ref l0, .ref l1, .ref l2]) m = some (.lst ([(l0, e0), (l1, e1), (l2, e2)].map fun x => V.ref x.1)) := upd_same
  have hB0 : H B = none := sm.free hB
  generalize upd H m (.lst [.ref l0, .ref l1, .ref l2]) = H0 at *
  clear hm
  have hls : ∀ x ∈ [(l0, e0), (l1, e1), (l2, e2)], Prs H x.1 x.2 ∧ EntsOk al x.2 ∧ x.2.length ≤ 20 := fun x hx => by
    rcases List.mem_cons.mp hx with rfl | hx
    · exact ⟨P0, O0, z0⟩
    rcases List.mem_cons.mp hx with rfl | hx
    · exact ⟨P1, O1, z1⟩
    rw [List.mem_singleton.mp hx]
    exact ⟨P2, O2, z2⟩
  refine L2.lc_it (L2.walk_list (xs := [(l0, e0), (l1, e1), (l2, e2)].map fun x => V.ref x.1)) (fun i H' => Same H0 H' ∧ ∃ bs : List Addr, bs.length ≤ i ∧ H' B = some (.lst (bs.map V.ref)) ∧ Paired (fun b es => BookE H' b C CP al 20 es) bs ([e0, e1, e2].take i)) ⟨same_new hB _, [], Nat.le_refl _, upd_same, .nil⟩ (fun _ _ _ ⟨s, _⟩ => SqL.of (s _ _ hm1)) ?_ ?_
  · rintro i x H3 H4 hi ⟨s3, bs, hbl, hB3, hp3⟩ ⟨rfl, hx⟩
    rw [List.getElem?_map] at hx
    cases hy : [(l0, e0), (l1, e1), (l2, e2)][i]? with
    | none => rw [hy] at hx; cases hx
    | some y =>
      rw [hy] at hx
      cases hx
      obtain ⟨Py, Oy, zy⟩ := hls y (List.mem_of_getElem? hy)
      have hi3 : i < 3 := (List.getElem?_eq_some_iff.mp hy).1
      have hy2 : [e0, e1, e2][i]? = some y.2 := by
        have e : [e0, e1, e2] = [(l0, e0), (l1, e1), (l2, e2)].map (·.2) := rfl
        rw [e, List.getElem?_map, hy]
        rfl
      refine ⟨rfl, _, rfl, _, rfl, y.1, al, 20, y.2, rfl, hA, (Py.mono sm).mono s3, Oy, zy, by decide, fun p H5 s5 ⟨dx, td, pd, f1, f2, G, _⟩ => ?_⟩
      have hB5 := s5 _ _ hB3
      refine ⟨_, hB5, small_lt (by rw [List.length_map]; omega), same_upd (s3.trans s5) hB, bs ++ [p], by rw [List.length_append]; show _ + 1 ≤ _; omega, by rw [upd_same, List.map_append]; rfl, ?_⟩
      rw [List.take_add_one, hy2]
      refine paired_snoc (Paired.mapP hp3 fun _ _ z => (z.mono s5).lst hB5) (BookE.lst ⟨dx, td, pd, f1, f2, G⟩ hB5)
  rintro H1 ⟨s1, bs, hbl, hB1, hp1⟩
  replace hp1 : Paired (fun b es => BookE H1 b C CP al 20 es) bs [e0, e1, e2] := hp1
  obtain ⟨b0, b1, b2, rfl, B0, B1, B2⟩ : ∃ b0 b1 b2, bs = [b0, b1, b2] ∧ BookE H1 b0 C CP al 20 e0 ∧ BookE H1 b1 C CP al 20 e1 ∧ BookE H1 b2 C CP al 20 e2 := by
    cases hp1 with
    | cons a t =>
      cases t with
      | cons b t =>
        cases t with
        | cons c t =>
          cases t
          exact ⟨_, _, _, rfl, a, b, c⟩
  replace hB1 : H1 B = some (.lst [.ref b0, .ref b1, .ref b2]) := hB1
  have s01 : Same H H1 := sm.trans s1
  clear hp1 hbl hls hB
  -- due
  refine ⟨_, rfl, _, rfl, _, rfl, l0, l1, l2, e0, e1, e2, rfl, P0.mono s01, P1.mono s01, P2.mono s01, by omega, by omega, fun D k cl H2 s2 hD hk2 hcl => ?_⟩
  have hB2 := s2 _ _ hB1
  have hcok := clash_ok O1 O2 (e0 := e0)
  have hcs : ∀ n ∈ clashE e0 e1 e2, ∀ c ∈ n, c < 128 := fun n hn => name_small (hcok n hn)
  have hclen := clash_len e0 e1 e2
  have hklen := kept_len e0 e1 e2
  -- made
  refine ⟨_, rfl, B, _, _, _, rfl, rfl, SqL.of hB2, rfl, _, rfl, B, _, _, _, rfl, rfl, SqL.of hB2, rfl, _, rfl, B, _, _, _, rfl, rfl, SqL.of hB2, rfl, b0, b1, b2, al, al, al, 20, 20, 20, e0, e1, e2, rfl, B0.mono s2, B1.mono s2, B2.mono s2, O1.u, O2.u, fun h => absurd ⟨rfl, rfl⟩ h, fun _ _ => ⟨by omega, fun hne => ?_, fun he => ⟨fun h => ?_, fun _ => ?_⟩⟩⟩
  · intro mA t H3 ys s3 pm so ht hmA
    have hD3 := s3 _ _ hD
    have hcl3 := s3 _ _ hcl
    have hB3 := s3 _ _ hB2
    refine ⟨_, rfl, D, _, _, _, rfl, rfl, SqL.of hD3, rfl, Nat.zero_le _, fun n hn => ?_⟩
    have s4 := same_new hn (.lst [])
    refine ⟨.list ((clashE e0 e1 e2).map fun n => .str (S n)), .list [], .lst (SqL.of (s4 _ _ hcl3)) (dp_sgs _), .lst (SqL.of upd_same) .nil, shaped_names hcs, by decide +kernel, ?_⟩
    have hneq : PyData.eqv (.list ((clashE e0 e1 e2).map fun n => PyData.str (S n))) (.list []) = false := by
      cases hh : clashE e0 e1 e2 with
      | nil => exact absurd hh hne
      | cons a r => rfl
    rw [hneq]
    refine ⟨_, rfl, ?_⟩
    refine ite2 (fun _ => ?_) (fun z => absurd rfl z)
    have s34 := s3.trans s4
    have hy := sorted_ord (clash_nodup O1.u O2.u) pm so
    subst hy
    refine ⟨_, rfl, _, rfl, D, _, _, _, rfl, rfl, SqL.of (s34 _ _ hD), rfl, cl, clashE e0 e1 e2, rfl, s34 _ _ hcl, by omega, clash_nodup O1.u O2.u, fun o H5 s5 ho => ⟨o, _, rfl, .inl ⟨SqL.of ho, fun tt htt => ⟨by show 4 ≤ sizeLine; decide, fun y hy => ?_⟩⟩⟩⟩
    have s6 := same_new htt (.tup (sgs (ordE (clashE e0 e1 e2))))
    have htt6 : upd H5 tt (.tup (sgs (ordE (clashE e0 e1 e2)))) tt = some (.tup (sgs (ordE (clashE e0 e1 e2)))) := upd_same
    have s7 := same_new hy (.lst [.str "ValueError", .str "ToolError", .bl true, .ref tt])
    have hy7 : upd (upd H5 tt (.tup (sgs (ordE (clashE e0 e1 e2))))) y (.lst [.str "ValueError", .str "ToolError", .bl true, .ref tt]) y = some (.lst [.str "ValueError", .str "ToolError", .bl true, .ref tt]) := upd_same
    have s37 := s4.trans (s5.trans (s6.trans s7))
    have hmA7 := s37 _ _ hmA
    have ht7 := s37 _ _ ht
    have htt7 := s7 _ _ htt6
    have e9 : ((ordE (clashE e0 e1 e2)).map S).map PyData.str = (ordE (clashE e0 e1 e2)).map fun n => PyData.str (S n) := by rw [List.map_map]; rfl
    have ol : (ordE (clashE e0 e1 e2)).length ≤ 40 := by
      have := (ord_ok (clashE e0 e1 e2) [] List.Pairwise.nil (fun _ _ h => nomatch h) (clash_nodup O1.u O2.u)).2.length_eq
      rw [List.nil_append] at this
      show (List.foldl ordStep [] _).length ≤ 40
      omega
    refine ⟨.ref mA, .ref y, .list [.str "ValueError", .str "ToolError", .bool true, .tuple (((ordE (clashE e0 e1 e2)).map S).map PyData.str)], .list [.str "ValueError", .str "ToolError", .bool true, .tuple ((ordE (clashE e0 e1 e2)).map fun n => PyData.str (S n))], rfl,
      .lst (SqL.of hmA7) (.cons (.str _) (.cons (.str _) (.cons (.bl _) (.cons (.tup (SqT.of ht7) (dp_strs _)) .nil)))), .lst (SqL.of hy7) (.cons (.str _) (.cons (.str _) (.cons (.bl _) (.cons (.tup (SqT.of htt7) (dp_sgs _)) .nil)))), ?_, fun b H8 s8 hb => ?_⟩
    · refine ⟨by show 4 ≤ 100000; decide, fun d hd => ?_⟩
      rcases List.mem_cons.mp hd with rfl | hd
      · trivial
      rcases List.mem_cons.mp hd with rfl | hd
      · trivial
      rcases List.mem_cons.mp hd with rfl | hd
      · trivial
      rw [List.mem_singleton.mp hd]
      refine ⟨by rw [List.length_map]; omega, fun d hd => ?_⟩
      obtain ⟨n, _, rfl⟩ := List.mem_map.mp hd
      trivial
    · have hb1 := hb.mpr (by rw [e9])
      subst hb1
      refine ⟨_, rfl, ?_⟩
      refine ite2 (fun z => (by cases z)) (fun _ => ?_)
      have s28 := s3.trans (s37.trans s8)
      exact hk H8 B b0 b1 b2 _ _ _ _ _ (s01.trans (s2.trans s28)) (s28 _ _ hB2) ((B0.mono s2).mono s28) ((B1.mono s2).mono s28) ((B2.mono s2).mono s28)
  · omega
  · intro mA p H3 s3 bn hmA
    rw [he] at hcl
    refine ⟨_, rfl, D, _, _, _, rfl, rfl, SqL.of (s3 _ _ hD), rfl, Nat.zero_le _, fun n hn => ?_⟩
    have s4 := same_new hn (.lst [])
    have s34 := s3.trans s4
    refine ⟨.list [], .list [], .lst (SqL.of (s34 _ _ hcl)) .nil, .lst (SqL.of upd_same) .nil, by decide +kernel, by decide +kernel, _, rfl, ?_⟩
    refine ite2 (fun z => (by cases z)) (fun _ => ?_)
    obtain ⟨dx, td, pd, f1, f2, G, np, ntd, npd⟩ := bn.mono s4
    have hmA4 := s4 _ _ hmA
    have uk : Uniq (keptE e0 e1 e2) := kept_uniq e0 e1 e2 (names_nodup O1.u O2.u)
    refine ⟨_, rfl, _, rfl, _, rfl, D, _, _, _, rfl, rfl, SqL.of (s34 _ _ hD), rfl, mA, p, k, al, keptE e0 e1 e2, rfl, hmA4, ⟨dx, td, pd, f1, f2, G⟩, uk, hk2.mono s34, fun H5 s5 => ?_⟩
    refine ⟨_, rfl, ?_⟩
    refine ite2 (fun z => (by cases z)) (fun _ => ?_)
    have G5 := G.mono s5
    have hmA5 := s5 _ _ hmA4
    have s25 := s34.trans s5
    have nmt : mA ≠ td := ne_of hmA5 G5.t (fun z => nomatch z)
    have npt : p ≠ td := ne_of G5.o G5.t (fun z => nomatch z)
    refine ⟨td, _, G5.t, trivial, fun od => ⟨_, rfl, mA, _, _, _, rfl, rfl, SqL.of (by rw [upd_ne nmt]; exact hmA5), rfl, p, dx, _, td, od, tkv (keptE e0 e1 e2), rfl, by rw [upd_ne npt]; exact G5.o, bk_texts _ _ _ _ _ _, upd_same, sz (by rw [tkv_len]; omega), fun H' hH' => ?_, fun L hL => ⟨?_, ?_⟩⟩⟩
    · exact ⟨p, dx, td, pd, f1, f2, al, 100, _, rfl, ⟨hH' _ _ (by rw [upd_ne npt]; exact G5.o), .inr ⟨od, hH' _ _ upd_same⟩⟩, (keptE e0 e1 e2).length, rfl, sz (by omega), rfl⟩
    · rw [upd_ne (ne_of_none upd_same hL)]
      exact upd_same
    have s6 : Same H5 (upd (upd (upd H5 td (.frz od (.dK (tkv (keptE e0 e1 e2))))) L (.lst ((tkv (keptE e0 e1 e2)).map fun kv => kV kv.1))) td (.dK (tkv (keptE e0 e1 e2)))) := lock_same G5.t (same_new hL _)
    have hL6 : upd (upd (upd H5 td (.frz od (.dK (tkv (keptE e0 e1 e2))))) L (.lst ((tkv (keptE e0 e1 e2)).map fun kv => kV kv.1))) td (.dK (tkv (keptE e0 e1 e2))) L = some (.lst (sgs ((keptE e0 e1 e2).map (·.1)))) := by
      rw [upd_ne (Ne.symm (ne_of_none upd_same hL)), upd_same]
      unfold tkv sgs
      rw [List.map_map, List.map_map]
      rfl
    generalize upd (upd (upd H5 td (.frz od (.dK (tkv (keptE e0 e1 e2))))) L (.lst ((tkv (keptE e0 e1 e2)).map fun kv => kV kv.1))) td (.dK (tkv (keptE e0 e1 e2))) = H6 at *
    clear hL
    have s26 := s25.trans s6
    refine ⟨L, rfl, ⟨_, SqL.of hL6⟩, ?_⟩
    have hsl : (sgs ((keptE e0 e1 e2).map (·.1))).length = (keptE e0 e1 e2).length := by rw [sgs_len, List.length_map]
    refine L2.for_it (L2.walk_list (xs := sgs ((keptE e0 e1 e2).map (·.1)))) (fun i σ H' => ∃ (x : Option V), σ = [some (.str (S al)), some (.ref l0), some (.ref l1), some (.ref l2), some (.ref B), some (.ref D), some (.ref mA), x, none, none] ∧ Same H2 H' ∧ H' L = some (.lst (sgs ((keptE e0 e1 e2).map (·.1)))) ∧ H' mA = some (.lst [.ref p]) ∧ BookAt H' p dx td pd f1 f2 C CP al 100 ((keptE e0 e1 e2).drop i))
      ⟨_, rfl, s26, hL6, s6 _ _ hmA5, G5.mono s6⟩ (fun _ _ _ _ ⟨_, _, _, h, _⟩ => SqL.of h) ?_ ?_
    · rintro i x σ H7 H8 hi ⟨x1, rfl, s7, hL7, hm7, G7⟩ ⟨rfl, hx⟩
      replace hx : (sgs ((keptE e0 e1 e2).map (·.1)))[i]? = some x := hx
      unfold sgs at hx
      rw [List.getElem?_map, List.getElem?_map] at hx
      cases hy : (keptE e0 e1 e2)[i]? with
      | none => rw [hy] at hx; cases hx
      | some y =>
        rw [hy] at hx
        cases hx
        have hdr : (keptE e0 e1 e2).drop i = y :: (keptE e0 e1 e2).drop (i + 1) := by
          obtain ⟨g1, g2⟩ := List.getElem?_eq_some_iff.mp hy
          rw [← g2, ← List.drop_eq_getElem_cons g1]
        rw [hdr] at G7
        have ud := uniq_drop uk i
        rw [hdr] at ud
        have htd : toldE (y :: (keptE e0 e1 e2).drop (i + 1)) y.1 = some y.2 := by rw [told_cons, if_pos rfl]
        obtain ⟨kps, hkp, _⟩ := G7.q
        refine ⟨_, rfl, mA, _, _, _, rfl, rfl, SqL.of hm7, rfl, p, dx, _, rfl, G7.o, bk_no _ _ _ _ _ _ (by decide +kernel), _, rfl, p, dx, td, pd, f1, f2, al, 100, _, y.1, rfl, G7, fun h => (by rw [htd] at h; cases h), fun _ H9 k9 G9 => ⟨_, rfl, k9.same s7 ntd npd, ?_, ?_, ?_⟩⟩
        · exact k9 _ _ (ne_of hL7 G7.t (fun z => nomatch z)) (ne_of hL7 hkp (fun z => nomatch z)) hL7
        · exact k9 _ _ (ne_of hm7 G7.t (fun z => nomatch z)) (ne_of hm7 hkp (fun z => nomatch z)) hm7
        · rw [drop_first ud] at G9
          exact G9
    · rintro σ H7 ⟨x1, rfl, s7, hL7, hm7, G7⟩
      exact hk H7 B b0 b1 b2 _ _ _ _ _ (s01.trans (s2.trans s7)) (s7 _ _ hB2) ((B0.mono s2).mono s7) ((B1.mono s2).mono s7) ((B2.mono s2).mono s7)
end
end W8

set_option Elab.async false
set_option linter.all false
set_option maxRecDepth 100000
set_option maxHeartbeats 4000000
/-! merged once more; the texts of the law -/
namespace W8
open PySem PySem.Spec PyProof.Rows L2 L2E
theorem nodup_len {α : Type} [DecidableEq α] : ∀ {xs ys : List α}, xs.Nodup → (∀ x ∈ xs, x ∈ ys) → xs.length ≤ ys.length
  | [], ys, _, _ => Nat.zero_le _
  | x :: xs, ys, h, hs => by
    rw [List.nodup_cons] at h
    have hx := hs x List.mem_cons_self
    have ih := nodup_len (ys := ys.erase x) h.2 fun y hy => (List.mem_erase_of_ne (fun z : y = x => h.1 (by rw [← z]; exact hy))).mpr (hs y (List.mem_cons_of_mem _ hy))
    have e := List.length_erase_of_mem hx
    have : 0 < ys.length := List.length_pos_of_mem hx
    rw [List.length_cons]
    omega
theorem told_of_mem {es : List Ent} (hu : Uniq es) {e : Ent} (h : e ∈ es) : toldE es e.1 = some e.2 := by
  obtain ⟨i, hi⟩ := List.getElem?_of_mem h
  exact told_get hu hi
theorem mem_names_l {one other : List Ent} {n : List Nat} (h : n ∈ one.map (·.1)) : n ∈ namesE one other := List.mem_append.mpr (.inl h)
theorem mem_names_r {one other : List Ent} {n : List Nat} (h : n ∈ other.map (·.1)) : n ∈ namesE one other := by
  cases hh : toldE one n with
  | some t => exact mem_names_l (List.mem_map.mpr ⟨_, told_mem hh, rfl⟩)
  | none =>
    obtain ⟨e, he, rfl⟩ := List.mem_map.mp h
    exact List.mem_append.mpr (.inr (List.mem_map.mpr ⟨e, List.mem_filter.mpr ⟨he, by rw [hh]; rfl⟩, rfl⟩))
/-- every name keeps what is told of it -/
theorem again_ok {base one other kept : List Ent} {ns : List (List Nat)} (hn : ns.Nodup) (uk : Uniq kept) (hs : ∀ n ∈ kept.map (·.1), n ∈ ns) (hp : ∀ n, pickE base one other n = some (toldE kept n)) :
    (∀ e ∈ kept, toldE (keptN base one other ns) e.1 = some e.2) ∧ (keptN base one other ns).length = kept.length := by
  have up := kept_uniq base one other hn
  have h1 : ∀ e ∈ kept, e ∈ keptN base one other ns := fun e he => List.mem_filterMap.mpr ⟨e.1, hs e.1 (List.mem_map.mpr ⟨e, he, rfl⟩), by rw [hp, told_of_mem uk he]; rfl⟩
  have h2 : ∀ e ∈ keptN base one other ns, e ∈ kept := fun e he => by
    have := (kept_names he).2
    rw [hp] at this
    exact told_mem (by injection this)
  refine ⟨fun e he => told_of_mem up (h1 e he), Nat.le_antisymm ?_ ?_⟩
  · have := nodup_len (xs := (keptN base one other ns).map (·.1)) (ys := kept.map (·.1)) up fun n hn => by
      obtain ⟨e, he, rfl⟩ := List.mem_map.mp hn
      exact List.mem_map.mpr ⟨e, h2 e he, rfl⟩
    rw [List.length_map, List.length_map] at this
    exact this
  · have := nodup_len (xs := kept.map (·.1)) (ys := (keptN base one other ns).map (·.1)) uk fun n hn => by
      obtain ⟨e, he, rfl⟩ := List.mem_map.mp hn
      exact List.mem_map.mpr ⟨e, h1 e he, rfl⟩
    rw [List.length_map, List.length_map] at this
    exact this
theorem pick_a (one kept : List Ent) (n : List Nat) : pickE one kept one n = some (toldE kept n) := by
  unfold pickE
  rw [if_pos (.inr rfl)]
theorem pick_b (other kept : List Ent) (n : List Nat) : pickE other other kept n = some (toldE kept n) := by
  unfold pickE
  by_cases h : toldE other n = toldE kept n ∨ toldE kept n = toldE other n
  · rw [if_pos h]
    rcases h with z | z
    · rw [z]
    · rw [z]
  · rw [if_neg h, if_pos rfl]
theorem kept_ents {al : List Nat} {e0 e1 e2 : List Ent} (h1 : EntsOk al e1) (h2 : EntsOk al e2) : EntsOk al (keptE e0 e1 e2) := by
  refine ⟨kept_uniq _ _ _ (names_nodup h1.u h2.u), fun e he => ?_⟩
  have := (kept_names he).2
  rcases pick_some this with z | z
  · exact h1.v _ (told_mem z)
  · exact h2.v _ (told_mem z)
/-! ### the texts are read -/
open RS in
theorem take_l1 {al : List Nat} {s : RS} {c : Nat} (hc : c ∈ al) (lo : 97 ≤ c ∧ c ≤ 122) (hr : s.ready = false) : take al s c = some (some ((s.put [.str "letter", .str (S [c])]).setB true)) := by
  unfold take
  rw [if_pos (.inl hc)]
  unfold begin1
  rw [if_neg (by rw [hr]; exact Bool.false_ne_true)]
  unfold begin2
  rw [if_neg (by omega), if_neg (by omega), if_neg (by omega), if_neg (by omega)]
  rfl
open RS in
theorem take_l2 {al : List Nat} {s : RS} {c : Nat} (hc : c ∈ al) (lo : 97 ≤ c ∧ c ≤ 122) (hr : s.ready = true) (hw : s.wait = []) : take al s c = some (some ((((s.addW 43).setB false).put [.str "letter", .str (S [c])]).setB true)) := by
  unfold take
  rw [if_pos (.inl hc)]
  unfold begin1
  rw [if_pos hr]
  have e : waitS s 43 = some ((s.addW 43).setB false) := by
    unfold waitS
    have b : bind 43 = some 3 := by decide
    rw [b]
    show (match down 3 (s.wait.length + 1) s with | none => none | some t => _) = _
    unfold down
    rw [hw]
    rfl
  rw [e]
  show Option.map some (some (begin2 al ((s.addW 43).setB false) c)) = _
  unfold begin2
  rw [if_neg (by omega), if_neg (by omega), if_neg (by omega), if_neg (by omega)]
  rfl
theorem readP_of {al tx : List Nat} {s t : RS} (h : tx.length ≤ 200) (hr : RS.readL al tx 0 RS.init = some (.inr s)) (hb : s.ready = true) (hd : RS.down 1 (s.wait.length + 1) s = some t) (hw : t.wait = []) : readP al tx = some (.rows t.rows) := by
  unfold readP
  rw [if_neg (by omega), hr]
  show (if s.ready = false then _ else match RS.down 1 (s.wait.length + 1) s with | none => none | some t => if t.wait = [] then some (RR.rows t.rows) else some (.text tx.length)) = _
  rw [if_neg (by rw [hb]; intro z; cases z), hd]
  show (if t.wait = [] then some (RR.rows t.rows) else _) = _
  rw [if_pos hw]
theorem readL_1 {al : List Nat} {a : Nat} {s : RS} (h : RS.take al RS.init a = some (some s)) : RS.readL al [a] 0 RS.init = some (.inr s) := by
  unfold RS.readL
  rw [h]
  rfl
theorem readL_2 {al : List Nat} {a b : Nat} {s t : RS} (h : RS.take al RS.init a = some (some s)) (h2 : RS.take al s b = some (some t)) : RS.readL al [a, b] 0 RS.init = some (.inr t) := by
  unfold RS.readL
  rw [h]
  show RS.readL al [b] 1 s = _
  unfold RS.readL
  rw [h2]
  rfl
theorem down_nil {s : RS} (h : s.wait = []) (n : Nat) : RS.down 1 (n + 1) s = some s := by
  unfold RS.down
  rw [h]
  rfl
theorem addL_wait : ∀ (ls : List Nat) (s : RS), (s.addL ls).wait = s.wait
  | [], s => rfl
  | l :: ls, s => (addL_wait ls _).trans rfl
theorem readP_text {al tx : List Nat} (hA : AlphOk al) (h : TextOk al tx) : ∃ rows, readP al tx = some (.rows rows) := by
  obtain ⟨c, hc, h⟩ := h
  have lo := hA.lo c hc
  have n42 : (42 : Nat) ∉ al := fun z => by have := hA.lo _ z; omega
  have one : ∀ {a : Nat} {s : RS}, RS.take al RS.init a = some (some s) → s.ready = true → s.wait = [] → ∃ rows, readP al [a] = some (.rows rows) := fun {a} {s} h1 h2 h3 => ⟨_, readP_of (by show 1 ≤ 200; decide) (readL_1 h1) h2 (down_nil h3 _) h3⟩
  rcases h with rfl | ⟨d, hd, rfl⟩ | rfl | rfl | rfl | rfl
  · exact one (take_l1 hc lo rfl) rfl rfl
  · have lod := hA.lo d hd
    exact ⟨_, readP_of (by show 2 ≤ 200; decide) (readL_2 (take_l1 hc lo rfl) (take_l2 hd lod rfl rfl)) rfl (t := (RS.put ⟨[[.str "letter", .str (S [c])], [.str "letter", .str (S [d])]], [], [], true⟩ [.str "then", RS.nV 0, RS.nV 1])) rfl rfl⟩
  · exact one (s := (RS.init.put [.str "or"]).setB true) (by unfold RS.take; rw [if_pos (.inr (by decide))]; rfl) rfl rfl
  · exact one (s := (RS.init.put [.str "empty"]).setB true) (by unfold RS.take; rw [if_pos (.inr (by decide))]; rfl) rfl rfl
  · exact one (s := ((RS.init.addL al).put (.str "or" :: (List.range al.length).map fun i => RS.nV (0 + i))).setB true) (by unfold RS.take; rw [if_pos (.inr (by decide))]; rfl) rfl (addL_wait al RS.init)
  · have e : RS.take al ((RS.init.put [.str "letter", .str (S [c])]).setB true) 42 = some (some ((((RS.init.put [.str "letter", .str (S [c])]).setB true).popO).put [.str "again", RS.nV 0])) := by
      unfold RS.take
      have h9 : ¬ (42 ∉ [42, 124, 38, 41] ∨ ((RS.init.put [.str "letter", .str (S [c])]).setB true).ready = false) := fun z => z.elim (fun y => y (by decide)) (fun y => nomatch y)
      rw [if_neg (fun z => z.elim n42 (by decide)), if_neg h9, if_pos rfl]
      rfl
    exact ⟨_, readP_of (by show 2 ≤ 200; decide) (readL_2 (take_l1 hc lo rfl) e) rfl (down_nil rfl _) rfl⟩
end W8

set_option Elab.async false
set_option linter.all false
set_option maxRecDepth 100000
set_option maxHeartbeats 4000000
namespace W8
open PySem PySem.Spec PyProof.Rows L2 L2E
abbrev sAgn : Stmt := top 74
theorem scAgn : FnScope ["letters", "base", "one", "other", "kept", "pairs", "pair"] ["letters", "base", "one", "other"] (defScope sAgn) := ⟨rfl, rfl, rfl, by decide +kernel, rfl, by decide +kernel, by decide +kernel⟩
def spAgn : Sp := fun vs H Q _ => ∃ (l0 l1 l2 : Addr) (al : List Nat) (e0 e1 e2 : List Ent), vs = [.str (S al), .ref l0, .ref l1, .ref l2] ∧ AlphOk al ∧ Prs H l0 e0 ∧ Prs H l1 e1 ∧ Prs H l2 e2 ∧ EntsOk al e1 ∧ EntsOk al e2 ∧ e1.length ≤ 10 ∧ e2.length ≤ 10 ∧ ∀ H', Same H H' → Q (.bl true) H'
section
variable {P : Program} {w : World} {K : PySem.W.Frag} {mg : Str → Option Value} {base : Heap}
theorem ok_agn {f : Addr} {fd : FuncData} (F : Fun K "_law_again" "_law_again" sAgn f fd) (tl : mg "len" = none) (c_due : Cal P w K mg base "_law_due" 2 ["base", "one", "other"] spDue) (c_told : Cal P w K mg base "_law_told" 1 ["pairs", "name"] spTold) (c_mrs : Cal P w K mg base "_law_merges" 11 ["letters", "base", "one", "other"] spMrs) : FnOk P w K mg base CX0 12 f fd ["letters", "base", "one", "other"] spAgn := by
  refine F.ok scAgn (fun vs H Q E h => ?_) (fun cdv A outer sh H vs Q E hr h => ?_)
  · obtain ⟨l0, l1, l2, al, e0, e1, e2, rfl, _⟩ := h
    rfl
  obtain ⟨l0, l1, l2, al, e0, e1, e2, rfl, hA, P0, P1, P2, O1, O2, z1, z2, q⟩ := h
  refine ⟨_, (pss_cons (ps_set (i := 4) scAgn.nd rfl (Or.inl rfl) (pixL (pcall c_due hr (pa_cons (pv 1) (pa_cons (pv 2) (pa_cons (pv 3) pa_nil)))) pe_int))
    (pss_cons (ps_for PassesOwn.never rfl (pi_list (pe_lst (pa_cons (pixL (pcall c_due hr (pa_cons (pv 2) (pa_cons (pv 4) (pa_cons (pv 2) pa_nil)))) pe_int) (pa_cons (pixL (pcall c_due hr (pa_cons (pv 3) (pa_cons (pv 3) (pa_cons (pv 4) pa_nil)))) pe_int) pa_nil)))) (pg_name (i := 5) scAgn.nd rfl (Or.inr rfl))
      (pss_one (ps_if (PW.pt (pw_or (pt_cmpR (op_neD hr.units) (pe_lc (tt := tTest (tOp rNe (tCall spTold [] E0 (tCons (tVar 5) (tCons (tIx K 6 0) tNil))) (tIx K 6 1))) (own := [("pair", 6)]) (g := gName 6) rfl scAgn.nd (pi_list (pv 4)) (blkOk_by (own := [("pair", 6)]) (N := ["letters", "base", "one", "other", "kept", "pairs", "pair"]) (sc := defScope sAgn) (by decide +kernel)) (fun _ _ _ _ _ => (pg_name (i := 6) scAgn.nd rfl (Or.inl rfl))) (fun _ _ _ _ _ => (pts_one (pt_cmpR op_ne (pcall c_told (by exact hr) (pa_cons (pv 5) (pa_cons (pixT (pv 6) pe_int) pa_nil))) (pixT (pv 6) pe_int) (nomark _)))) (fun _ _ _ _ _ => (pv 6))) (pe_lst pa_nil) (nomark _)) (pw_or1 (pt_cmpR op_ne (pB1 call_len_seq tl (pv 5)) (pB1 call_len_seq tl (pv 4)) (nomark _)))))
        (pss_one (ps_ret pe_bl))
        pss_nil)))
    (pss_one (ps_ret (pe_and (pcall c_mrs hr (pa_cons (pv 0) (pa_cons (pv 2) (pa_cons (pv 4) (pa_cons (pv 2) pa_nil))))) (pe_one (pcall c_mrs hr (pa_cons (pv 0) (pa_cons (pv 3) (pa_cons (pv 3) (pa_cons (pv 4) pa_nil))))))))))), ?_⟩
  have hkl := kept_len e0 e1 e2
  have Ok := kept_ents (e0 := e0) O1 O2
  refine ⟨_, rfl, _, rfl, _, rfl, l0, l1, l2, e0, e1, e2, rfl, P0, P1, P2, by omega, by omega, fun D k cl H1 s1 hD hk _ => ?_⟩
  generalize keptE e0 e1 e2 = kp at *
  refine ⟨D, _, _, _, rfl, rfl, SqL.of hD, rfl, ?_⟩
  have P11 := P1.mono s1
  refine ⟨_, rfl, _, rfl, _, rfl, l1, k, l1, e1, kp, e1, rfl, P11, hk, P11, by omega, by omega, fun D1 k1 _ H2 s2 hD1 hk1 _ => ⟨D1, _, _, _, rfl, rfl, SqL.of hD1, rfl, ?_⟩⟩
  have P22 := (P2.mono s1).mono s2
  refine ⟨_, rfl, _, rfl, _, rfl, l2, l2, k, e2, e2, kp, rfl, P22, P22, hk.mono s2, by omega, by omega, fun D2 k2 _ H3 s3 hD2 hk2 _ => ⟨D2, _, _, _, rfl, rfl, SqL.of hD2, rfl, by show 2 ≤ sizeLine; decide, fun m hm => ?_⟩⟩
  have s4 := same_new hm (.lst [.ref k1, .ref k2])
  have hm4 : upd H3 m (.lst [.ref k1, .ref k2]) m = some (.lst ([(k1, keptE e1 kp e1), (k2, keptE e2 e2 kp)].map fun x => V.ref x.1)) := upd_same
  replace hm4 : upd H3 m (.lst [.ref k1, .ref k2]) m = some (.lst ([(k1, keptE e1 kp e1), (k2, keptE e2 e2 kp)].map fun x => V.ref x.1)) := hm4
  generalize upd H3 m (.lst [.ref k1, .ref k2]) = H4 at *
  clear hm
  have s14 := s2.trans (s3.trans s4)
  have s04 := s1.trans s14
  have hk4 := hk.mono s14
  have hall : ∀ x ∈ [(k1, keptE e1 kp e1), (k2, keptE e2 e2 kp)], Prs H4 x.1 x.2 ∧ (∀ e ∈ kp, toldE x.2 e.1 = some e.2) ∧ x.2.length = kp.length := fun x hx => by
    rcases List.mem_cons.mp hx with rfl | hx
    · exact ⟨(hk1.mono s3).mono s4, again_ok (names_nodup Ok.u O1.u) Ok.u (fun n hn => mem_names_l hn) (pick_a e1 kp)⟩
    · rw [List.mem_singleton.mp hx]
      exact ⟨hk2.mono s4, again_ok (names_nodup O2.u Ok.u) Ok.u (fun n hn => mem_names_r hn) (pick_b e2 kp)⟩
  obtain ⟨ts, hl, ht⟩ := hk4
  have hlt : ts.length = kp.length := Paired.length ht
  refine ⟨m, rfl, ⟨_, SqL.of hm4⟩, ?_⟩
  refine L2.for_it (L2.walk_list (xs := [(k1, keptE e1 kp e1), (k2, keptE e2 e2 kp)].map fun x => V.ref x.1)) (fun i σ H' => ∃ (x : Option V), σ = [some (.str (S al)), some (.ref l0), some (.ref l1), some (.ref l2), some (.ref k), x, none] ∧ Same H4 H') ⟨none, rfl, Same.refl H4⟩ (fun _ _ _ _ ⟨_, _, s⟩ => SqL.of (s _ _ hm4)) ?_ ?_
  · rintro i x σ H5 H6 hi ⟨x1, rfl, s5⟩ ⟨rfl, hx⟩
    rw [List.getElem?_map] at hx
    cases hy : [(k1, keptE e1 kp e1), (k2, keptE e2 e2 kp)][i]? with
    | none => rw [hy] at hx; cases hx
    | some y =>
      rw [hy] at hx
      cases hx
      obtain ⟨Py, ty, ly⟩ := hall y (List.mem_of_getElem? hy)
      have hl5 := s5 _ _ hl
      refine ⟨_, rfl, k, rfl, ⟨_, SqL.of hl5⟩, fun L hL => ?_⟩
      refine L2.lc_it (L2.walk_list (xs := ts.map V.ref)) (fun i H' => Same H6 H' ∧ H' L = some (.lst [])) ⟨same_new hL _, upd_same⟩ (fun _ _ _ ⟨s, _⟩ => SqL.of (s _ _ hl5)) ?_ ?_
      · rintro j x H7 H8 hj ⟨s7, hL7⟩ ⟨rfl, hx⟩
        obtain ⟨t, e, rfl, hti, hei, hat⟩ := prs_get ht hx
        have hat7 := s7 _ _ (s5 _ _ hat)
        refine ⟨rfl, _, rfl, _, rfl, t, _, _, _, rfl, rfl, SqT.of hat7, at0 _ _, y.1, y.2, e.1, rfl, (Py.mono s5).mono s7, _, rfl, t, _, _, _, rfl, rfl, SqT.of hat7, at1 _ _ _, ?_⟩
        rw [ty e (List.mem_of_getElem? hei)]
        refine ⟨rfl, _, rfl, ?_⟩
        refine ite2 (fun z => absurd rfl (decF z)) (fun _ => ⟨s7, hL7⟩)
      rintro H7 ⟨s7, hL7⟩
      refine ⟨Nat.zero_le _, fun n hn => ?_⟩
      have s8 := same_new hn (.lst [])
      refine ⟨.list [], .list [], .lst (SqL.of (s8 _ _ hL7)) .nil, .lst (SqL.of upd_same) .nil, by decide +kernel, by decide +kernel, _, rfl, ?_⟩
      refine ite2 (fun z => (by cases z)) (fun _ => ?_)
      have s68 := s5.trans (s7.trans s8)
      obtain ⟨ts2, hl2, ht2⟩ := Py.mono s68
      refine ⟨_, rfl, y.1, _, rfl, .inl (SqL.of hl2), _, rfl, k, _, rfl, .inl (SqL.of (s68 _ _ hl)), rfl, _, rfl, ?_⟩
      have e9 : ((ts2.map V.ref).length : Int) = ((ts.map V.ref).length : Int) := by
        rw [List.length_map, List.length_map, hlt, Paired.length ht2, ly]
      rw [e9]
      refine ite2 (fun z => absurd rfl (decF z)) (fun _ => ⟨_, rfl, s68⟩)
  · rintro σ H5 ⟨x1, rfl, s5⟩
    have s15 := s14.trans s5
    have s05 := s1.trans s15
    have hk5 := hk.mono s15
    refine ⟨_, rfl, _, rfl, _, rfl, _, rfl, l1, k, l1, al, e1, kp, e1, rfl, hA, P1.mono s05, hk5, P1.mono s05, O1, Ok, O1, by omega, by omega, by omega, fun H6 s6 => ?_⟩
    refine ⟨_, rfl, ?_⟩
    refine ite2 (fun _ => ?_) (fun z => absurd rfl z)
    have s06 := s05.trans s6
    exact ⟨_, rfl, _, rfl, _, rfl, _, rfl, l2, l2, k, al, e2, e2, kp, rfl, hA, P2.mono s06, P2.mono s06, hk5.mono s6, O2, O2, Ok, by omega, by omega, by omega, fun H7 s7 => q _ (s06.trans s7)⟩
end
end W8

set_option Elab.async false
set_option linter.all false
set_option maxRecDepth 100000
set_option maxHeartbeats 4000000
/-! two large books, in plain Lean -/
namespace W8
open PySem PySem.Spec PyProof.Rows L2 L2E
def bigN (n : Nat) : List (List Nat) := (List.range n).map fun k => [97 + k / 26, 97 + k % 26]
theorem bigN_len (n : Nat) : (bigN n).length = n := by unfold bigN; rw [List.length_map, List.length_range]
theorem bigN_nodup (n : Nat) : (bigN n).Nodup := by
  unfold bigN
  refine List.pairwise_map.mpr ((List.nodup_range (n := n)).imp fun {a b} h e => h ?_)
  have h1 : 97 + a / 26 = 97 + b / 26 := by injection e
  have h2 : 97 + a % 26 = 97 + b % 26 := by
    injection e with _ e2
    injection e2
  omega
theorem mem_small2 {k : Nat} (h : k < 26) : 97 + k ∈ small := by
  unfold small
  exact List.mem_map.mpr ⟨k, List.mem_range.mpr h, by omega⟩
theorem bigN_ok {n : Nat} (h : n ≤ 104) : ∀ x ∈ bigN n, NameOk x := fun x hx => by
  unfold bigN at hx
  obtain ⟨k, hk, rfl⟩ := List.mem_map.mp hx
  have hk := List.mem_range.mp hk
  have a := mem_small2 (k := k / 26) (by omega)
  have b := mem_small2 (k := k % 26) (by omega)
  refine ⟨by show 1 ≤ 2; decide, by show 2 ≤ 12; decide, fun c hc => ?_, fun c hc => .inl ?_⟩
  · cases hc
    exact a
  · rcases List.mem_cons.mp hc with z | z
    · rw [z]; exact a
    · rw [List.mem_singleton.mp z]; exact b
theorem keep_all {f : List Nat → Option Ent} : ∀ {es : List Ent}, (∀ e ∈ es, f e.1 = some e) → (es.map (·.1)).filterMap f = es
  | [], _ => rfl
  | e :: es, h => by
    rw [List.map_cons, List.filterMap_cons, h e List.mem_cons_self, keep_all fun d hd => h d (List.mem_cons_of_mem _ hd)]
/-- nothing stood before -/
theorem kept_new {one other : List Ent} (u1 : Uniq one) (u2 : Uniq other) (hag : ∀ n a b, toldE one n = some a → toldE other n = some b → a = b) :
    keptE [] one other = one ++ other.filter (fun e => (toldE one e.1).isNone) ∧ clashE [] one other = [] := by
  have p1 : ∀ n t, toldE one n = some t → pickE [] one other n = some (some t) := fun n t h => by
    unfold pickE
    cases ho : toldE other n with
    | none => rw [if_pos (.inr (by rw [told_nil])), h]
    | some b => obtain rfl := hag n t b h ho; rw [if_pos (.inl h), h]
  have p2 : ∀ n t, toldE one n = none → toldE other n = some t → pickE [] one other n = some (some t) := fun n t h h2 => by
    unfold pickE
    rw [h, h2, told_nil, if_neg (fun z => z.elim (fun y => nomatch y) (fun y => nomatch y)), if_pos rfl]
  have q1 : ∀ e ∈ one, pickE [] one other e.1 = some (some e.2) := fun e he => p1 _ _ (told_of_mem u1 he)
  have q2 : ∀ e ∈ other.filter (fun e => (toldE one e.1).isNone), pickE [] one other e.1 = some (some e.2) := fun e he => by
    obtain ⟨h1, h2⟩ := List.mem_filter.mp he
    refine p2 _ _ ?_ (told_of_mem u2 h1)
    cases hh : toldE one e.1 with
    | none => rfl
    | some _ => rw [hh] at h2; cases h2
  refine ⟨?_, ?_⟩
  · unfold keptE keptN namesE
    rw [List.filterMap_append, keep_all fun e he => by rw [q1 e he]; rfl, keep_all fun e he => by rw [q2 e he]; rfl]
  · unfold clashE clashN namesE
    rw [List.filter_eq_nil_iff]
    intro n hn
    rcases List.mem_append.mp hn with z | z
    · obtain ⟨e, he, rfl⟩ := List.mem_map.mp z
      rw [q1 e he]
      exact Bool.false_ne_true
    · obtain ⟨e, he, rfl⟩ := List.mem_map.mp z
      rw [q2 e he]
      exact Bool.false_ne_true
def withT (t : List Nat) (ns : List (List Nat)) : List Ent := ns.map fun n => (n, t)
theorem withT_names (t : List Nat) (ns : List (List Nat)) : (withT t ns).map (·.1) = ns := by
  unfold withT
  rw [List.map_map]
  exact List.map_id ns
theorem withT_told {t n s : List Nat} {ns : List (List Nat)} (h : toldE (withT t ns) n = some s) : s = t := by
  have := told_mem h
  unfold withT at this
  obtain ⟨m, _, e⟩ := List.mem_map.mp this
  injection e with _ e
  exact e.symm
theorem large_kept {ns : List (List Nat)} {t : List Nat} {a sh : Nat} (hn : ns.Nodup) :
    keptE [] (withT t (ns.take (a + sh))) (withT t (ns.drop a)) = withT t (ns.take (a + sh)) ++ (withT t (ns.drop a)).drop sh ∧ clashE [] (withT t (ns.take (a + sh))) (withT t (ns.drop a)) = [] := by
  have u1 : Uniq (withT t (ns.take (a + sh))) := by
    unfold Uniq
    rw [withT_names]
    exact hn.sublist (List.take_sublist _ _)
  have u2 : Uniq (withT t (ns.drop a)) := by
    unfold Uniq
    rw [withT_names]
    exact hn.sublist (List.drop_sublist _ _)
  obtain ⟨h1, h2⟩ := kept_new u1 u2 fun n x y hx hy => (withT_told hx).trans (withT_told hy).symm
  refine ⟨h1.trans (congrArg _ ?_), h2⟩
  have e1 : withT t (ns.drop a) = withT t ((ns.drop a).take sh) ++ withT t (ns.drop (a + sh)) := by
    unfold withT
    rw [← List.map_append, ← List.drop_drop, List.take_append_drop]
  have e2 : (withT t (ns.drop a)).drop sh = withT t (ns.drop (a + sh)) := by
    unfold withT
    rw [← List.map_drop, List.drop_drop]
  rw [e2, e1, List.filter_append]
  have f1 : (withT t ((ns.drop a).take sh)).filter (fun e => (toldE (withT t (ns.take (a + sh))) e.1).isNone) = [] := by
    rw [List.filter_eq_nil_iff]
    intro e he
    have hm : e.1 ∈ ns.take (a + sh) := by
      have : e.1 ∈ (ns.drop a).take sh := by
        rw [← withT_names t ((ns.drop a).take sh)]
        exact List.mem_map.mpr ⟨e, he, rfl⟩
      rw [List.take_add]
      exact List.mem_append.mpr (.inr this)
    have : (toldE (withT t (ns.take (a + sh))) e.1).isSome = true := told_in (e := (e.1, t)) (List.mem_map.mpr ⟨e.1, hm, rfl⟩)
    cases hh : toldE (withT t (ns.take (a + sh))) e.1 with
    | none => rw [hh] at this; cases this
    | some _ => exact Bool.false_ne_true
  have f2 : (withT t (ns.drop (a + sh))).filter (fun e => (toldE (withT t (ns.take (a + sh))) e.1).isNone) = withT t (ns.drop (a + sh)) := by
    rw [List.filter_eq_self]
    intro e he
    have hm : e.1 ∈ ns.drop (a + sh) := by
      rw [← withT_names t (ns.drop (a + sh))]
      exact List.mem_map.mpr ⟨e, he, rfl⟩
    have : toldE (withT t (ns.take (a + sh))) e.1 = none := told_not fun z => by
      rw [withT_names] at z
      have hs : ns = ns.take (a + sh) ++ ns.drop (a + sh) := (List.take_append_drop _ _).symm
      rw [hs] at hn
      exact (List.nodup_append.mp hn).2.2 e.1 z e.1 hm rfl
    rw [this]
    rfl
  rw [f1, f2]
  rfl
end W8

set_option Elab.async false
set_option linter.all false
set_option maxRecDepth 100000
set_option maxHeartbeats 4000000
namespace W8
open PySem PySem.Spec PyProof.Rows L2 L2E
abbrev sLrg : Stmt := top 73
theorem scLrg : FnScope ["state", "letters", "many", "shared", "small", "names", "one", "other", "made", "k", "name"] ["state", "letters"] (defScope sLrg) := ⟨rfl, rfl, rfl, by decide +kernel, rfl, by decide +kernel, by decide +kernel⟩
def spLrg (K : PySem.W.Frag) : Sp := fun vs H Q _ => ∃ (a : Addr) (al : List Nat), vs = [.ref a, .str (S al)] ∧ AlphOk al ∧ ∃ p, StOk K H a p ∧ ∀ H', But a H H' → StOk K H' a p → Q (.bl true) H'
structure MkCalD (P : Program) (w : World) (K : PySem.W.Frag) (mg : Str → Option Value) (base : Heap) (C : Addr) (k : Nat) (ps : List Str) (sp : Sp) (dvs : List V) : Prop where
  ex : ∃ (f : Addr) (fd : FuncData) (ds : List Value), FnOk P w K mg base CX0 k f fd ps sp ∧ Mk K C f ∧ Binds K fd ps ds ∧ Vals dvs ds
theorem cut_take (xs : List V) (n : Nat) : cutV xs none (some (n : Int)) = xs.take n := by
  unfold cutV
  rw [HT.sIx_none, HT.sIx_nat, List.drop_zero, Nat.sub_zero]
  by_cases h : n ≤ xs.length
  · rw [Nat.min_eq_left h]
  · rw [Nat.min_eq_right (by omega), List.take_length, List.take_of_length_le (by omega)]
theorem cut_drop (xs : List V) (n : Nat) : cutV xs (some (n : Int)) none = xs.drop n := by
  unfold cutV
  rw [HT.sIx_none, HT.sIx_nat]
  by_cases h : n ≤ xs.length
  · rw [Nat.min_eq_left h, List.take_of_length_le (by rw [List.length_drop]; omega)]
  · rw [Nat.min_eq_right (by omega), List.drop_length, List.drop_of_length_le (by omega)]
    exact List.take_nil
theorem sgs_take (ns : List (List Nat)) (n : Nat) : (sgs ns).take n = sgs (ns.take n) := by unfold sgs; rw [List.map_take]
theorem sgs_drop (ns : List (List Nat)) (n : Nat) : (sgs ns).drop n = sgs (ns.drop n) := by unfold sgs; rw [List.map_drop]
theorem bigN_get {n i : Nat} (h : i < n) : (bigN n)[i]? = some [97 + i / 26, 97 + i % 26] := by
  unfold bigN
  rw [List.getElem?_map, List.getElem?_range h]
  rfl
section
variable {P : Program} {w : World} {K : PySem.W.Frag} {mg : Str → Option Value} {base : Heap}
theorem ok_lrg {f C CP : Addr} {fd : FuncData} (F : Fun K "_law_large" "_law_large" sLrg f fd) (T : BkT K mg C) (S0 : SameT mg) (mk : MkCalD P w K mg base C 2 ["self", "letters", "room"] (spBInit C CP) [.int 20]) (c_draw : Cal P w K mg base "_law_draw" 1 ["state", "many"] (spDraw K)) (c_book : Cal P w K mg base "_law_book" 9 ["letters", "pairs", "room"] (spBook C CP)) (c_mgd : Cal P w K mg base "_law_merged" 10 ["base", "one", "other"] (spLMerged C CP))
    (c_is : Cal P w K mg base "_law_is" 5 ["made", "letters", "pairs"] (spIs C CP)) (c_same : Cal P w K mg base "_law_same" 4 ["actual", "expected"] (spSame K 4)) : FnOk P w K mg base CX0 11 f fd ["state", "letters"] (spLrg K) := by
  refine F.ok scLrg (fun vs H Q E h => ?_) (fun cdv A outer sh H vs Q E hr h => ?_)
  · obtain ⟨a, al, rfl, _⟩ := h
    rfl
  obtain ⟨a, al, rfl, hA, p, S1, q⟩ := h
  obtain ⟨fb, fdb, ds, Fb, mb, bb, vb⟩ := mk.ex
  refine ⟨_, (pss_cons (ps_set (i := 2) scLrg.nd rfl (Or.inl rfl) pe_int)
    (pss_cons (ps_set (i := 3) scLrg.nd rfl (Or.inl rfl) (pe_op op_add pe_int (pcall c_draw hr (pa_cons (pv 0) (pa_cons pe_int pa_nil)))))
    (pss_cons (ps_set (i := 4) scLrg.nd rfl (Or.inr rfl) pe_str)
    (pss_cons (ps_setLc (i := 5) (own := [("k", 9)]) (g := gName 9) (tt := tYes) rfl scLrg.nd rfl rfl (sw_true rfl rfl rfl (by decide +kernel)) (pi_range1 (by rfl) S0.range (pa_cons (pe_op op_sub (pe_op op_mul pe_int (pv 2)) (pv 3)) pa_nil)) (blkOk_by (own := [("k", 9)]) (N := ["state", "letters", "many", "shared", "small", "names", "one", "other", "made", "k", "name"]) (sc := defScope sLrg) (by decide +kernel)) (fun _ _ _ _ _ => (pg_name (i := 9) scLrg.nd rfl (Or.inl rfl))) (fun _ _ _ _ _ => pts_nil) (fun _ _ _ _ _ => (pe_op op_addS (pixS (pv 4) (pe_op op_fdiv (pv 9) pe_int)) (pixS (pv 4) (pe_op op_mod (pT1 call_int1 S0.int (pv 9)) pe_int)))))
    (pss_cons (ps_setLc (i := 6) (own := [("name", 10)]) (g := gName 10) (tt := tYes) rfl scLrg.nd rfl rfl (sw_true rfl rfl rfl (by decide +kernel)) (pi_list (pe_slice sl_list (pv 5) po_none (po_some (pv 2)))) (blkOk_by (own := [("name", 10)]) (N := ["state", "letters", "many", "shared", "small", "names", "one", "other", "made", "k", "name"]) (sc := defScope sLrg) (by decide +kernel)) (fun _ _ _ _ _ => (pg_name (i := 10) scLrg.nd rfl (Or.inl rfl))) (fun _ _ _ _ _ => pts_nil) (fun _ _ _ _ _ => (pe_tup (pa_cons (pv 10) (pa_cons (pixS (pv 1) pe_int) pa_nil)))))
    (pss_cons (ps_setLc (i := 7) (own := [("name", 10)]) (g := gName 10) (tt := tYes) rfl scLrg.nd rfl rfl (sw_true rfl rfl rfl (by decide +kernel)) (pi_list (pe_slice sl_list (pv 5) (po_some (pe_op op_sub (pv 2) (pv 3))) po_none)) (blkOk_by (own := [("name", 10)]) (N := ["state", "letters", "many", "shared", "small", "names", "one", "other", "made", "k", "name"]) (sc := defScope sLrg) (by decide +kernel)) (fun _ _ _ _ _ => (pg_name (i := 10) scLrg.nd rfl (Or.inl rfl))) (fun _ _ _ _ _ => pts_nil) (fun _ _ _ _ _ => (pe_tup (pa_cons (pv 10) (pa_cons (pixS (pv 1) pe_int) pa_nil)))))
    (pss_cons (ps_set (i := 8) scLrg.nd rfl (Or.inl rfl) (pcall c_mgd hr (pa_cons (pe_make mb Fb (hr.mono (by decide)) (by rfl) T.mgC bb vb pass0 (pa_cons (pv 1) pa_nil)) (pa_cons (pcall c_book hr (pa_cons (pv 1) (pa_cons (pv 6) (pa_cons pe_int pa_nil)))) (pa_cons (pcall c_book hr (pa_cons (pv 1) (pa_cons (pv 7) (pa_cons pe_int pa_nil)))) pa_nil)))))
    (pss_cons (ps_if (pt_cmpR op_eq (pv 3) pe_int (nomark _))
      (pss_one (ps_ret (pcall c_same hr (pa_cons (pv 8) (pa_cons (pe_lst (pa_cons pe_str (pa_cons pe_str (pa_cons pe_str (pa_cons pe_bl (pa_cons pe_int pa_nil)))))) pa_nil)))))
      pss_nil)
    (pss_one (ps_ret (pcall c_is hr (pa_cons (pv 8) (pa_cons (pv 1) (pa_cons (pe_op op_cat (pv 6) (pe_slice sl_list (pv 7) (po_some (pv 3)) po_none)) pa_nil)))))))))))))), ?_⟩
  have n1 := hA.n1
  have n3 := hA.n3
  have sl : (S al).length ≤ sizeLine := by rw [S_len]; exact sz (by omega)
  obtain ⟨c, hcm, _, hat0⟩ := at_S (w := al) (i := 0) (by omega) (by omega)
  -- shared
  refine ⟨_, rfl, a, 2, rfl, by omega, by omega, _, S1, fun r H1 r0 r1 B1 S2 => ⟨_, _, rfl, rfl, ?_⟩⟩
  obtain ⟨w', h12, rfl⟩ : ∃ w' : Nat, (w' = 1 ∨ w' = 2) ∧ r = (w' : Int) - 1 := ⟨(r + 1).toNat, by omega, by omega⟩
  dsimp only
  rw [show (1 : Int) + ((w' : Int) - 1) = (w' : Int) by omega]
  clear r0 r1
  -- names
  refine ⟨_, rfl, _, _, rfl, rfl, .inl ⟨by decide, by decide⟩, _, rfl, _, _, rfl, rfl, _, rfl, by omega, by omega, fun L hL => ?_⟩
  dsimp only
  rw [show ((2 : Int) * 51 - (w' : Int)).toNat = 102 - w' by omega]
  have hbl := bigN_len (102 - w')
  have hbn := bigN_nodup (102 - w')
  have hbo := bigN_ok (n := 102 - w') (by omega)
  refine L2.lc_range (lo := 0) (n := 102 - w') (fun i H' => Same H1 H' ∧ H' L = some (.lst (sgs ((bigN (102 - w')).take i)))) ⟨same_new hL _, upd_same⟩ ?_ ?_
  · rintro i H3 hi ⟨s3, hL3⟩
    refine ⟨rfl, _, rfl, _, rfl, _, _, rfl, rfl, ⟨by decide, by decide⟩, S small, _, _, by rw [small_eq], rfl, by decide, small_at (i := (0 + (i : Int)) / 26) (by omega) (by omega), _, rfl, _, rfl, .inl ⟨_, rfl, _, _, rfl, rfl, by show (0 : Int) < 26; decide, S small, _, _, by rw [small_eq], rfl, by decide, small_at (i := (0 + (i : Int)) % 26) (by omega) (by omega), _, _, rfl, rfl, sz (by show 1 + 1 ≤ 100000; decide), ?_⟩⟩
    refine ⟨_, hL3, small_lt (by rw [sgs_len, List.length_take]; omega), same_upd s3 hL, ?_⟩
    rw [upd_same, List.take_add_one, bigN_get hi, sgs_app]
    refine congrArg (fun z => some (HO.lst (_ ++ [V.str z]))) ?_
    show S [((0 + (i : Int)) / 26).toNat + 97] ++ S [((0 + (i : Int)) % 26).toNat + 97] = S [97 + i / 26, 97 + i % 26]
    rw [S_app]
    refine congrArg S ?_
    show [_, _] = [_, _]
    rw [show ((0 + (i : Int)) / 26).toNat + 97 = 97 + i / 26 by omega, show ((0 + (i : Int)) % 26).toNat + 97 = 97 + i % 26 by omega]
  rintro H2 ⟨s2, hL2⟩
  rw [List.take_of_length_le (by omega)] at hL2
  generalize bigN (102 - w') = ns at *
  -- one
  refine ⟨_, rfl, _, rfl, _, rfl, L, _, rfl, SqL.of hL2, fun x hx => ?_⟩
  rw [show (51 : Int) = ((51 : Nat) : Int) from rfl, cut_take, sgs_take]
  have s5 := same_new hx (.lst (sgs (ns.take 51)))
  have hx5 : upd H2 x (.lst (sgs (ns.take 51))) x = some (.lst (sgs (ns.take 51))) := upd_same
  generalize upd H2 x (.lst (sgs (ns.take 51))) = H5 at *
  clear hx
  have htl : (ns.take 51).length ≤ 51 := by rw [List.length_take]; omega
  refine ⟨x, rfl, ⟨_, SqL.of hx5⟩, fun D hD => ?_⟩
  refine L2.lc_it (L2.walk_list (xs := sgs (ns.take 51))) (fun i H' => Same H5 H' ∧ ∃ us : List Addr, us.length = i ∧ H' D = some (.lst (us.map V.ref)) ∧ Paired (fun (t : Addr) (e : Ent) => H' t = some (.tup (prow e))) us ((withT [c] (ns.take 51)).take i)) ⟨same_new hD _, [], rfl, upd_same, .nil⟩ (fun _ _ _ ⟨s, _⟩ => SqL.of (s _ _ hx5)) ?_ ?_
  · rintro i x H3 H4 hi ⟨s3, us, hul, hD3, hp⟩ ⟨rfl, hx⟩
    replace hx : (sgs (ns.take 51))[i]? = some x := hx
    unfold sgs at hx
    rw [List.getElem?_map] at hx
    cases hn : ((ns.take 51))[i]? with
    | none => rw [hn] at hx; cases hx
    | some n =>
      rw [hn] at hx
      cases hx
      have hw : (withT [c] (ns.take 51))[i]? = some (n, [c]) := by unfold withT; rw [List.getElem?_map, hn]; rfl
      have hi2 : i < 200 := by have := (List.getElem?_eq_some_iff.mp hn).1; omega
      refine ⟨rfl, _, rfl, _, rfl, _, _, c, rfl, rfl, sl, hat0, by show 2 ≤ sizeLine; decide, fun tt htt => ?_⟩
      have s4 := same_new htt (.tup (prow (n, [c])))
      have htt4 : upd H4 tt (.tup (prow (n, [c]))) tt = some (.tup (prow (n, [c]))) := upd_same
      have hD4 := s4 _ _ hD3
      refine ⟨_, hD4, small_lt (by rw [List.length_map]; omega), same_upd (s3.trans s4) hD, us ++ [tt], by rw [List.length_append, hul]; rfl, by rw [List.map_append]; exact upd_same, ?_⟩
      rw [List.take_add_one, hw]
      refine paired_snoc (Paired.mapP hp fun _ _ z => ?_) ?_
      · exact (upd_ne (ne_of (s4 _ _ z) hD4 (fun z => nomatch z))).trans (s4 _ _ z)
      · exact (upd_ne (ne_of htt4 hD4 (fun z => nomatch z))).trans htt4
  rintro H6 ⟨s6, us6, _, hone, pone⟩
  rw [sgs_len, List.take_of_length_le (by unfold withT; rw [List.length_map]; exact Nat.le_refl _)] at pone
  have hL6 := s6 _ _ (s5 _ _ hL2)
  -- other
  refine ⟨_, rfl, _, rfl, _, rfl, _, _, rfl, rfl, _, rfl, L, _, rfl, SqL.of hL6, fun y hy => ?_⟩
  dsimp only
  rw [show ((51 : Nat) : Int) - (w' : Int) = ((51 - w' : Nat) : Int) by omega, cut_drop, sgs_drop]
  have s7 := same_new hy (.lst (sgs (ns.drop (51 - w'))))
  have hy7 : upd H6 y (.lst (sgs (ns.drop (51 - w')))) y = some (.lst (sgs (ns.drop (51 - w')))) := upd_same
  generalize upd H6 y (.lst (sgs (ns.drop (51 - w')))) = H7 at *
  clear hy
  have hdl : (ns.drop (51 - w')).length = 51 := by rw [List.length_drop]; omega
  refine ⟨y, rfl, ⟨_, SqL.of hy7⟩, fun M hM => ?_⟩
  refine L2.lc_it (L2.walk_list (xs := sgs (ns.drop (51 - w')))) (fun i H' => Same H7 H' ∧ ∃ us : List Addr, us.length = i ∧ H' M = some (.lst (us.map V.ref)) ∧ Paired (fun (t : Addr) (e : Ent) => H' t = some (.tup (prow e))) us ((withT [c] (ns.drop (51 - w'))).take i)) ⟨same_new hM _, [], rfl, upd_same, .nil⟩ (fun _ _ _ ⟨s, _⟩ => SqL.of (s _ _ hy7)) ?_ ?_
  · rintro i x H3 H4 hi ⟨s3, us, hul, hD3, hp⟩ ⟨rfl, hx⟩
    replace hx : (sgs (ns.drop (51 - w')))[i]? = some x := hx
    unfold sgs at hx
    rw [List.getElem?_map] at hx
    cases hn : ((ns.drop (51 - w')))[i]? with
    | none => rw [hn] at hx; cases hx
    | some n =>
      rw [hn] at hx
      cases hx
      have hw : (withT [c] (ns.drop (51 - w')))[i]? = some (n, [c]) := by unfold withT; rw [List.getElem?_map, hn]; rfl
      have hi2 : i < 200 := by have := (List.getElem?_eq_some_iff.mp hn).1; omega
      refine ⟨rfl, _, rfl, _, rfl, _, _, c, rfl, rfl, sl, hat0, by show 2 ≤ sizeLine; decide, fun tt htt => ?_⟩
      have s4 := same_new htt (.tup (prow (n, [c])))
      have htt4 : upd H4 tt (.tup (prow (n, [c]))) tt = some (.tup (prow (n, [c]))) := upd_same
      have hD4 := s4 _ _ hD3
      refine ⟨_, hD4, small_lt (by rw [List.length_map]; omega), same_upd (s3.trans s4) hM, us ++ [tt], by rw [List.length_append, hul]; rfl, by rw [List.map_append]; exact upd_same, ?_⟩
      rw [List.take_add_one, hw]
      refine paired_snoc (Paired.mapP hp fun _ _ z => ?_) ?_
      · exact (upd_ne (ne_of (s4 _ _ z) hD4 (fun z => nomatch z))).trans (s4 _ _ z)
      · exact (upd_ne (ne_of htt4 hD4 (fun z => nomatch z))).trans htt4
  rintro H8 ⟨s8, us8, _, hother, pother⟩
  rw [sgs_len, List.take_of_length_le (by unfold withT; rw [List.length_map]; exact Nat.le_refl _)] at pother
  have hone8 := s8 _ _ (s7 _ _ hone)
  have pone8 := Paired.mapP pone fun _ _ z => s8 _ _ (s7 _ _ z)
  have s28 : Same H1 H8 := s2.trans (s5.trans (s6.trans (s7.trans s8)))
  have rd : ∃ rows, readP al [c] = some (.rows rows) := readP_text hA ⟨c, hcm, .inl rfl⟩
  have EO : ∀ ms : List (List Nat), ms.Nodup → (∀ m ∈ ms, m ∈ ns) → EntsOk al (withT [c] ms) := fun ms h1 h2 => ⟨by unfold Uniq; rw [withT_names]; exact h1, fun e he => by
    unfold withT at he
    obtain ⟨m, hm, rfl⟩ := List.mem_map.mp he
    exact ⟨hbo m (h2 m hm), rd⟩⟩
  have O1 := EO (ns.take 51) (hbn.sublist (List.take_sublist _ _)) fun m hm => List.mem_of_mem_take hm
  have O2 := EO (ns.drop (51 - w')) (hbn.sublist (List.drop_sublist _ _)) fun m hm => List.mem_of_mem_drop hm
  obtain ⟨hk, hcl⟩ := large_kept (ns := ns) (t := [c]) (a := 51 - w') (sh := w') hbn
  rw [show 51 - w' + w' = 51 by omega] at hk hcl
  have hw1 : (withT [c] (ns.take 51)).length = 51 := by unfold withT; rw [List.length_map, List.length_take]; omega
  have hw2 : (withT [c] (ns.drop (51 - w'))).length = 51 := by unfold withT; rw [List.length_map, hdl]
  have hkl : (keptE [] (withT [c] (ns.take 51)) (withT [c] (ns.drop (51 - w')))).length = 102 - w' := by
    rw [hk, List.length_append, List.length_drop, hw1, hw2]
    omega
  have hku := (kept_ents (e0 := []) O1 O2).u
  generalize he1 : withT [c] (ns.take 51) = es1 at *
  generalize he2 : withT [c] (ns.drop (51 - w')) = es2 at *
  -- made
  refine ⟨_, rfl, fun b0 dx hb hdx hne => ?_⟩
  have sb : Same H8 (upd (upd H8 dx (.own b0)) b0 (.ins C dx [])) := (same_new hdx (.own b0)).trans (same_new (by rw [upd_ne (Ne.symm hne)]; exact hb) _)
  refine ⟨b0, dx, al, 20, rfl, upd_same, hA, by decide, fun H9 td pd f1 f2 bt nt np G0 => ⟨rfl, ?_⟩⟩
  have s9 : Same H8 H9 := fun b o e => bt b o (fun z => by rw [z, hb] at e; cases e) (sb b o e)
  clear bt sb
  have Q1 : Prs H9 D es1 := Prs.mono ⟨us6, hone8, pone8⟩ s9
  have Q2 : Prs H9 M es2 := Prs.mono ⟨us8, hother, pother⟩ s9
  refine ⟨_, rfl, _, rfl, D, al, 100, es1, rfl, hA, Q1, O1, by omega, by omega, fun b1 H10 s10 N1 => ?_⟩
  refine ⟨_, rfl, _, rfl, M, al, 60, es2, rfl, hA, Q2.mono s10, O2, by omega, by omega, fun b2 H11 s11 N2 => ?_⟩
  obtain ⟨dx1, td1, pd1, f11, f21, G1, _⟩ := N1
  obtain ⟨dx2, td2, pd2, f12, f22, G2, _⟩ := N2
  have B0 : BookE H11 b0 C CP al 20 [] := ⟨dx, td, pd, f1, f2, (G0.mono s10).mono s11⟩
  have s1b : Same H1 H11 := s28.trans (s9.trans (s10.trans s11))
  have fin : ∀ H', Same H11 H' → Q (.bl true) H' := fun H' s' => q H' (B1.trans (But.same0 (s1b.trans s'))) (S2.mono (s1b.trans s'))
  refine ⟨b0, b1, b2, al, al, al, 20, 100, 60, [], es1, es2, rfl, B0, ⟨dx1, td1, pd1, f11, f21, G1.mono s11⟩, ⟨dx2, td2, pd2, f12, f22, G2⟩, O1.u, O2.u, fun h => absurd ⟨rfl, rfl⟩ h, fun _ _ => ⟨by rw [hcl]; decide, fun h => absurd hcl h, fun _ => ⟨fun h100 => ?_, fun h100 => ?_⟩⟩⟩
  · have e1 : w' = 1 := by omega
    subst e1
    intro mA H12 s12 hmA
    refine ⟨_, rfl, rfl, _, rfl, ?_⟩
    refine ite2 (fun _ => ?_) (fun z => absurd rfl z)
    refine ⟨_, rfl, by show 5 ≤ sizeLine; decide, fun z hz => ?_⟩
    have s13 := same_new hz (.lst [.str "ValueError", .str "ToolError", .str "LimitError", .bl false, .int 100])
    have hz13 : upd H12 z (.lst [.str "ValueError", .str "ToolError", .str "LimitError", .bl false, .int 100]) z = some (.lst [.str "ValueError", .str "ToolError", .str "LimitError", .bl false, .int 100]) := upd_same
    refine ⟨.ref mA, .ref z, .list [.str "ValueError", .str "ToolError", .str "LimitError", .bool false, .int 100], .list [.str "ValueError", .str "ToolError", .str "LimitError", .bool false, .int 100], rfl,
      .lst (SqL.of (s13 _ _ hmA)) (.cons (.str _) (.cons (.str _) (.cons (.str _) (.cons (.bl _) (.cons (.int _) .nil))))), .lst (SqL.of hz13) (.cons (.str _) (.cons (.str _) (.cons (.str _) (.cons (.bl _) (.cons (.int _) .nil))))), ?_, fun b H14 s14 hb => ?_⟩
    · refine ⟨by show 5 ≤ 100000; decide, fun d hd => ?_⟩
      rcases List.mem_cons.mp hd with rfl | hd
      · trivial
      rcases List.mem_cons.mp hd with rfl | hd
      · trivial
      rcases List.mem_cons.mp hd with rfl | hd
      · trivial
      rcases List.mem_cons.mp hd with rfl | hd
      · trivial
      rw [List.mem_singleton.mp hd]
      trivial
    · have hb1 := hb.mpr rfl
      subst hb1
      exact fin _ (s12.trans (s13.trans s14))
  · have e1 : w' = 2 := by omega
    subst e1
    intro mA pM H12 s12 bn hmA
    refine ⟨_, rfl, rfl, _, rfl, ?_⟩
    refine ite2 (fun z => ?_) (fun _ => ?_)
    · have := of_decide_eq_true z
      injection this with this
      cases this
    obtain ⟨ts1, hl1, ht1⟩ := (Q1.mono s10).mono s11
    obtain ⟨ts2, hl2, ht2⟩ := (Q2.mono s10).mono s11
    obtain ⟨dxM, tdM, pdM, f1M, f2M, GM, _⟩ := bn
    refine ⟨_, rfl, _, rfl, _, rfl, _, rfl, _, rfl, _, rfl, M, _, rfl, SqL.of (s12 _ _ hl2), fun z hz => ?_⟩
    rw [cut_drop, ← List.map_drop]
    have s13 := same_new hz (.lst ((ts2.drop 2).map V.ref))
    have hz13 : upd H12 z (.lst ((ts2.drop 2).map V.ref)) z = some (.lst ((ts2.drop 2).map V.ref)) := upd_same
    have hlt1 : ts1.length = 51 := by rw [Paired.length ht1, hw1]
    have hlt2 : ts2.length = 51 := by rw [Paired.length ht2, hw2]
    refine ⟨D, z, _, _, rfl, rfl, s13 _ _ (s12 _ _ hl1), hz13, sz (by rw [List.length_map, List.length_map, List.length_drop]; omega), fun y' hy' => ?_⟩
    have s14 := same_new hy' (.lst (ts1.map V.ref ++ (ts2.drop 2).map V.ref))
    have hy14 : upd (upd H12 z (.lst ((ts2.drop 2).map V.ref))) y' (.lst (ts1.map V.ref ++ (ts2.drop 2).map V.ref)) y' = some (.lst ((ts1 ++ ts2.drop 2).map V.ref)) := by rw [upd_same, List.map_append]
    have s34 := s13.trans s14
    have s24 := s12.trans s34
    refine ⟨mA, pM, y', al, _, rfl, s34 _ _ hmA, ⟨dxM, tdM, pdM, f1M, f2M, GM.mono s34⟩, hku, ?_, fun H15 s15 => fin _ (s24.trans s15)⟩
    refine ⟨ts1 ++ ts2.drop 2, hy14, ?_⟩
    rw [hk]
    have drp : ∀ (n : Nat) {ts : List Addr} {es : List Ent}, Paired (fun (t : Addr) (e : Ent) => H11 t = some (.tup (prow e))) ts es → Paired (fun (t : Addr) (e : Ent) => H11 t = some (.tup (prow e))) (ts.drop n) (es.drop n) := fun n => by
      induction n with
      | zero => exact fun h => h
      | succ n ih =>
        intro ts es h
        cases h with
        | nil => exact .nil
        | cons a b => exact ih b
    have app : ∀ {ts us : List Addr} {es ds : List Ent}, Paired (fun (t : Addr) (e : Ent) => H11 t = some (.tup (prow e))) ts es → Paired (fun (t : Addr) (e : Ent) => H11 t = some (.tup (prow e))) us ds → Paired (fun (t : Addr) (e : Ent) => H11 t = some (.tup (prow e))) (ts ++ us) (es ++ ds) := fun {ts} {us} {es} {ds} h g => by
      induction h with
      | nil => exact g
      | cons a b ih => exact .cons a ih
    exact Paired.mapP (app ht1 (drp 2 ht2)) fun _ _ z => s24 _ _ z
end
end W8

set_option Elab.async false
set_option linter.all false
set_option maxRecDepth 100000
set_option maxHeartbeats 4000000
namespace W8
open PySem PySem.Spec PyProof.Rows L2 L2E
abbrev sNew : Stmt := top 58
theorem scNew : FnScope ["script"] ["script"] (defScope sNew) := ⟨rfl, rfl, rfl, by decide +kernel, rfl, by decide +kernel, by decide +kernel⟩
def spNew (K : PySem.W.Frag) : Sp := fun vs H Q _ => ∃ (a : Addr) (ns : List Int), vs = [.ref a] ∧ SqL K H a (ns.map V.int) ∧ ns.length ≤ 63 ∧ (∀ z ∈ ns, Builtin.Int.intBits z ≤ 1048576) ∧ ∀ b p H', Same H H' → StOk K H' b p → Q (.ref b) H'
abbrev sLaw : Stmt := top 75
theorem scLaw : FnScope ["script", "state", "letters", "small", "at", "names", "base", "turn", "one", "other", "way", "name", "text", "far", "books", "mixed", "told"] ["script"] (defScope sLaw) := ⟨rfl, rfl, rfl, by decide +kernel, rfl, by decide +kernel, by decide +kernel⟩
def spLaw (K : PySem.W.Frag) : Sp := fun vs H Q _ => ∃ (a : Addr) (ns : List Int), vs = [.ref a] ∧ SqL K H a (ns.map V.int) ∧ ns.length ≤ 63 ∧ (∀ z ∈ ns, Builtin.Int.intBits z ≤ 1048576) ∧ ∀ H', Q (.bl true) H'
theorem Alph.ok2 {al : List Nat} (h : Alph al (8 * al.length - 1)) (n3 : al.length ≤ 3) : AlphOk al ∧ ∀ c ∈ al, c ≤ 120 := by
  refine ⟨⟨List.length_pos_iff.mpr h.ne, n3, h.asc, fun c hc => ?_⟩, fun c hc => ?_⟩
  · have := h.lo c hc
    omega
  · have := h.lo c hc
    omega
/-- names of five, and the law's texts -/
structure ListOk (al : List Nat) (nm : List (List Nat)) (es : List Ent) : Prop where
  u : Uniq es
  v : ∀ e ∈ es, e.1 ∈ nm ∧ TextOk al e.2
theorem ListOk.nil {al : List Nat} {nm : List (List Nat)} : ListOk al nm [] := ⟨List.nodup_nil, fun e h => (by cases h)⟩
theorem ListOk.ents {al : List Nat} {nm : List (List Nat)} {es : List Ent} (hA : AlphOk al) (hn : ∀ n ∈ nm, NameOk n) (h : ListOk al nm es) : EntsOk al es := ⟨h.u, fun e he => ⟨hn _ (h.v e he).1, readP_text hA (h.v e he).2⟩⟩
theorem ListOk.len {al : List Nat} {nm : List (List Nat)} {es : List Ent} (h : ListOk al nm es) : es.length ≤ nm.length := by
  have := nodup_len (xs := es.map (·.1)) (ys := nm) h.u fun n hn => by
    obtain ⟨e, he, rfl⟩ := List.mem_map.mp hn
    exact (h.v e he).1
  rwa [List.length_map] at this
theorem put_uniq {es : List Ent} {n t : List Nat} (h : Uniq es) : Uniq (putE es n t) := by
  unfold Uniq putE at *
  rw [told_any]
  split
  · rw [List.map_map]
    have e : ((fun e : Ent => e.1) ∘ fun e : Ent => if e.1 = n then (e.1, t) else e) = fun e : Ent => e.1 := funext fun e => by
      show (if e.1 = n then (e.1, t) else e).1 = e.1
      split <;> rfl
    rw [e]
    exact h
  · rename_i hn
    rw [List.map_append]
    refine List.nodup_append.mpr ⟨h, List.nodup_cons.mpr ⟨(by simp), List.nodup_nil⟩, fun a ha b hb e => ?_⟩
    subst e
    rw [List.mem_singleton.mp hb] at ha
    obtain ⟨e, he, e2⟩ := List.mem_map.mp ha
    have := told_in he
    rw [e2] at this
    exact hn this
theorem ListOk.change {al : List Nat} {nm : List (List Nat)} {es : List Ent} {n : List Nat} {t : Option (List Nat)} (h : ListOk al nm es) (hn : n ∈ nm) (ht : ∀ x, t = some x → TextOk al x) : ListOk al nm (changeE es n t) := by
  cases t with
  | none => exact ⟨List.Nodup.sublist (List.filter_sublist.map _) h.u, fun e he => h.v e (List.mem_filter.mp he).1⟩
  | some x =>
    refine ⟨put_uniq h.u, fun e he => ?_⟩
    rcases put_mem he with z | rfl
    · exact h.v e z
    · exact ⟨hn, ht x rfl⟩
theorem StOk.ne_prs {K : PySem.W.Frag} {H : Hp} {a p l : Addr} {ts : List Addr} (h : StOk K H a p) (hl : H l = some (.lst (ts.map V.ref))) : l ≠ a := fun z => by
  obtain ⟨i, v, q, m, h9⟩ := h.at_
  rw [← z, hl] at h9
  injection h9 with h9
  injection h9 with h9
  cases ts with
  | nil => cases h9
  | cons t ts =>
    cases ts with
    | nil => cases h9
    | cons u ts => cases h9
theorem StOk.ne_sgs {K : PySem.W.Frag} {H : Hp} {a p l : Addr} {ns : List (List Nat)} (h : StOk K H a p) (hl : H l = some (.lst (sgs ns))) : l ≠ a := fun z => by
  obtain ⟨i, v, q, m, h9⟩ := h.at_
  rw [← z, hl] at h9
  injection h9 with h9
  injection h9 with h9
  cases ns with
  | nil => cases h9
  | cons t ts => cases h9
theorem Prs.but {K : PySem.W.Frag} {H H' : Hp} {a p l : Addr} {es : List Ent} (h : Prs H l es) (s : StOk K H a p) (b : But a H H') : Prs H' l es := by
  obtain ⟨ts, h1, h2⟩ := h
  obtain ⟨i, v, q, m, h9⟩ := s.at_
  exact ⟨ts, b _ _ (s.ne_prs h1) h1, Paired.mapP h2 fun t e z => b _ _ (ne_of z h9 (fun z => nomatch z)) z⟩
/-- what the law's lists are -/
structure LI (K : PySem.W.Frag) (H : Hp) (a pp N : Addr) (al : List Nat) (nm : List (List Nat)) (l0 l1 l2 : Addr) (e0 e1 e2 : List Ent) : Prop where
  s : StOk K H a pp
  n : H N = some (.lst (sgs nm))
  p0 : Prs H l0 e0
  p1 : Prs H l1 e1
  p2 : Prs H l2 e2
  o0 : ListOk al nm e0
  o1 : ListOk al nm e1
  o2 : ListOk al nm e2
section
variable {K : PySem.W.Frag} {H H' : Hp} {a pp N : Addr} {al : List Nat} {nm : List (List Nat)} {l0 l1 l2 : Addr} {e0 e1 e2 : List Ent}
theorem LI.mono (h : LI K H a pp N al nm l0 l1 l2 e0 e1 e2) (s : Same H H') : LI K H' a pp N al nm l0 l1 l2 e0 e1 e2 := ⟨h.s.mono s, s _ _ h.n, h.p0.mono s, h.p1.mono s, h.p2.mono s, h.o0, h.o1, h.o2⟩
theorem LI.but (h : LI K H a pp N al nm l0 l1 l2 e0 e1 e2) (b : But a H H') (s : StOk K H' a pp) : LI K H' a pp N al nm l0 l1 l2 e0 e1 e2 := ⟨s, b _ _ (h.s.ne_sgs h.n) h.n, h.p0.but h.s b, h.p1.but h.s b, h.p2.but h.s b, h.o0, h.o1, h.o2⟩
end
theorem at_sgs {ns : List (List Nat)} {i : Int} (h0 : 0 ≤ i) (h1 : i < (ns.length : Int)) : ∃ n ∈ ns, atI (sgs ns) i = some (.str (S n)) := by
  have hi : i.toNat < ns.length := by omega
  have ei : i = (i.toNat : Int) := by omega
  refine ⟨ns[i.toNat], List.getElem_mem hi, ?_⟩
  unfold atI ixN
  rw [if_pos h0, sgs_len, if_pos h1]
  show (sgs ns)[i.toNat]? = _
  unfold sgs
  rw [List.getElem?_map, List.getElem?_eq_getElem hi]
  rfl
theorem c57z : ("9z" : Str) = S [57, 122] := by decide +kernel
theorem c98 : ("b" : Str) = S [98] := by decide +kernel
theorem c121 : ("y" : Str) = S [121] := by decide +kernel
theorem c122 : ("z" : Str) = S [122] := by decide +kernel
theorem c121z : ("yz" : Str) = S [121, 122] := by decide +kernel
def nm5 (t : Nat) : List (List Nat) := [[t + 97], [t + 98, 48], [t + 99], [t + 97, 98], [t + 100, 57, 122]]
theorem mem_small3 {k : Nat} (h1 : 97 ≤ k) (h2 : k ≤ 122) : k ∈ small := by
  unfold small
  exact List.mem_map.mpr ⟨k - 97, List.mem_range.mpr (by omega), by omega⟩
theorem nm5_ok {t : Nat} (h : t < 20) : ∀ n ∈ nm5 t, NameOk n := by
  have d48 : 48 ∈ digits := by decide
  have d57 : 57 ∈ digits := by decide
  intro n hn
  unfold nm5 at hn
  simp only [List.mem_cons, List.not_mem_nil, or_false] at hn
  rcases hn with rfl | rfl | rfl | rfl | rfl
  all_goals refine ⟨by simp, by simp, fun c hc => ?_, fun c hc => ?_⟩
  all_goals first
    | (cases hc; exact mem_small3 (by omega) (by omega))
    | (simp only [List.mem_cons, List.not_mem_nil, or_false] at hc
       rcases hc with rfl | rfl | rfl <;> first | exact .inl (mem_small3 (by omega) (by omega)) | exact .inr d48 | exact .inr d57)
    | (simp only [List.mem_cons, List.not_mem_nil, or_false] at hc
       rcases hc with rfl | rfl <;> first | exact .inl (mem_small3 (by omega) (by omega)) | exact .inr d48 | exact .inr d57)
    | (simp only [List.mem_cons, List.not_mem_nil, or_false] at hc
       subst hc
       exact .inl (mem_small3 (by omega) (by omega)))
section
variable {P : Program} {w : World} {K : PySem.W.Frag} {mg : Str → Option Value} {base : Heap}
theorem ok_new {f : Addr} {fd : FuncData} (F : Fun K "_law_new" "_law_new" sNew f fd) (tl : mg "list" = none) : FnOk P w K mg base CX0 1 f fd ["script"] (spNew K) := by
  refine F.ok scNew (fun vs H Q E h => ?_) (fun cdv A outer s H vs Q E hr h => ?_)
  · obtain ⟨a, ns, rfl, _⟩ := h
    rfl
  obtain ⟨a, ns, rfl, hS, hn, hb, q⟩ := h
  refine ⟨_, (pss_one (ps_ret (pe_lst (pa_cons (pT1 call_list_of tl (pv 0)) (pa_cons pe_int (pa_cons pe_int (pa_cons pe_int (pa_cons pe_int pa_nil)))))))), ?_⟩
  refine ⟨_, rfl, _, _, rfl, .inl hS, fun p hp => ?_⟩
  refine ⟨by show 5 ≤ sizeLine; decide, fun b hb2 => ?_⟩
  have s1 := same_new hp (.lst (ns.map V.int))
  have s2 := same_new hb2 (.lst [.ref p, .int 0, .int 0, .int 0, .int 0])
  have npb : p ≠ b := ne_of_none upd_same hb2
  exact q b p _ (s1.trans s2) ⟨ns, 0, 0, 0, 0, upd_same, s2 _ _ upd_same, npb, hb, hn, by omega, by omega, .inr (by omega)⟩
structure LawC (P : Program) (w : World) (K : PySem.W.Frag) (mg : Str → Option Value) (base : Heap) (C CP : Addr) : Prop where
  T : BkT K mg C
  S : SameT mg
  mkB : MkCalD P w K mg base C 2 ["self", "letters", "room"] (spBInit C CP) [.int 20]
  new : Cal P w K mg base "_law_new" 1 ["script"] (spNew K)
  letters : Cal P w K mg base "_law_letters" 2 ["state", "most"] (spLetters K)
  draw : Cal P w K mg base "_law_draw" 1 ["state", "many"] (spDraw K)
  text : Cal P w K mg base "_law_text" 2 ["state", "letters"] (spText K)
  changed : Cal P w K mg base "_law_changed" 2 ["pairs", "name", "text"] spChanged
  due : Cal P w K mg base "_law_due" 2 ["base", "one", "other"] spDue
  book : Cal P w K mg base "_law_book" 9 ["letters", "pairs", "room"] (spBook C CP)
  merged : Cal P w K mg base "_law_merged" 10 ["base", "one", "other"] (spLMerged C CP)
  merges : Cal P w K mg base "_law_merges" 11 ["letters", "base", "one", "other"] spMrs
  again : Cal P w K mg base "_law_again" 12 ["letters", "base", "one", "other"] spAgn
  large : Cal P w K mg base "_law_large" 11 ["state", "letters"] (spLrg K)
  same : Cal P w K mg base "_law_same" 4 ["actual", "expected"] (spSame K 4)
theorem far_at {u : Int} (h0 : 0 ≤ u) (h1 : u < 3) : ∃ fa, AlphOk fa ∧ (∀ c ∈ fa, 121 ≤ c) ∧ atI [V.str "y", V.str "z", V.str "yz"] u = some (.str (S fa)) := by
  have h : u = 0 ∨ u = 1 ∨ u = 2 := by omega
  rcases h with rfl | rfl | rfl
  · refine ⟨[121], ⟨by decide, by decide, by decide, by decide⟩, by decide, ?_⟩
    rw [c121]; rfl
  · refine ⟨[122], ⟨by decide, by decide, by decide, by decide⟩, by decide, ?_⟩
    rw [c122]; rfl
  · refine ⟨[121, 122], ⟨by decide, by decide, by decide, by decide⟩, by decide, ?_⟩
    rw [c121z]; rfl
abbrev mxD : PyData := .list [.str "ValueError", .str "ToolError", .str "MixedLetters", .bool false]
abbrev mxV : List V := [.str "ValueError", .str "ToolError", .str "MixedLetters", .bl false]
theorem mx_dp {K : PySem.W.Frag} {H : Hp} {a : Addr} (h : H a = some (.lst mxV)) : Dp K H (.ref a) mxD := .lst (SqL.of h) (.cons (.str _) (.cons (.str _) (.cons (.str _) (.cons (.bl _) .nil))))
theorem mx_ok : okE 3 mxD := by
  refine ⟨by show 4 ≤ 100000; decide, fun d hd => ?_⟩
  rcases List.mem_cons.mp hd with rfl | hd
  · trivial
  rcases List.mem_cons.mp hd with rfl | hd
  · trivial
  rcases List.mem_cons.mp hd with rfl | hd
  · trivial
  rw [List.mem_singleton.mp hd]
  trivial
abbrev lawS (a0 a : Addr) (al : List Nat) (t : Int) (N l0 l1 l2 : Addr) (x7 x10 x11 x12 : Option V) : L2.St := [some (.ref a0), some (.ref a), some (.str (S al)), some (.str "abcdefghijklmnopqrstuvwxyz"), some (.int t), some (.ref N), some (.ref l0), x7, some (.ref l1), some (.ref l2), x10, x11, x12, none, none, none, none]
theorem ok_law {f C CP : Addr} {fd : FuncData} (F : Fun K "law" "law" sLaw f fd) (c : LawC P w K mg base C CP) : FnOk P w K mg base CX0 13 f fd ["script"] (spLaw K) := by
  refine F.ok scLaw (fun vs H Q E h => ?_) (fun cdv A outer sh H vs Q E hr h => ?_)
  · obtain ⟨a, ns, rfl, _⟩ := h
    rfl
  obtain ⟨a0, ns, rfl, hS, hn, hb, q⟩ := h
  obtain ⟨fb, fdb, ds, Fb, mb, bb, vb⟩ := c.mkB.ex
  refine ⟨_, (pss_cons (ps_set (i := 1) scLaw.nd rfl (Or.inl rfl) (pcall c.new hr (pa_cons (pv 0) pa_nil)))
    (pss_cons (ps_set (i := 2) scLaw.nd rfl (Or.inl rfl) (pcall c.letters hr (pa_cons (pv 1) (pa_cons pe_int pa_nil))))
    (pss_cons (ps_set (i := 3) scLaw.nd rfl (Or.inl rfl) pe_str)
    (pss_cons (ps_set (i := 4) scLaw.nd rfl (Or.inl rfl) (pcall c.draw hr (pa_cons (pv 1) (pa_cons pe_int pa_nil))))
    (C8.pss_cut (ps_set (i := 5) scLaw.nd rfl (Or.inl rfl) (pe_lst (pa_cons (pixS (pv 3) (pv 4)) (pa_cons (pe_op op_add_str (pixS (pv 3) (pe_op op_add (pv 4) pe_int)) pe_str) (pa_cons (pixS (pv 3) (pe_op op_add (pv 4) pe_int)) (pa_cons (pe_op op_add_str (pixS (pv 3) (pv 4)) pe_str) (pa_cons (pe_op op_add_str (pixS (pv 3) (pe_op op_add (pv 4) pe_int)) pe_str) pa_nil)))))))
    (pss_cons (ps_set (i := 6) scLaw.nd rfl (Or.inl rfl) (pe_lst pa_nil))
    (C8.pss_cut (ps_for PassesOwn.never rfl (pi_range1 (by rfl) c.S.range (pa_cons (pcall c.draw hr (pa_cons (pv 1) (pa_cons pe_int pa_nil))) pa_nil)) (pg_name (i := 7) scLaw.nd rfl (Or.inl rfl))
      (pss_one (ps_set (i := 6) scLaw.nd rfl (Or.inl rfl) (pcall c.changed hr (pa_cons (pv 6) (pa_cons (pixL (pv 5) (pcall c.draw hr (pa_cons (pv 1) (pa_cons pe_int pa_nil)))) (pa_cons (pcall c.text hr (pa_cons (pv 1) (pa_cons (pv 2) pa_nil))) pa_nil)))))))
    (pss_cons (ps_set (i := 8) scLaw.nd rfl (Or.inl rfl) (pT1 call_list_of c.S.list (pv 6)))
    (C8.pss_cut (ps_set (i := 9) scLaw.nd rfl (Or.inl rfl) (pT1 call_list_of c.S.list (pv 6)))
    (C8.pss_cut (ps_for PassesOwn.never rfl (pi_range1 (by rfl) c.S.range (pa_cons (pcall c.draw hr (pa_cons (pv 1) (pa_cons pe_int pa_nil))) pa_nil)) (pg_name (i := 7) scLaw.nd rfl (Or.inl rfl))
      (pss_cons (ps_set (i := 10) scLaw.nd rfl (Or.inl rfl) (pcall c.draw hr (pa_cons (pv 1) (pa_cons pe_int pa_nil))))
      (pss_cons (ps_set (i := 11) scLaw.nd rfl (Or.inl rfl) (pixL (pv 5) (pcall c.draw hr (pa_cons (pv 1) (pa_cons pe_int pa_nil)))))
      (pss_cons (ps_set (i := 12) scLaw.nd rfl (Or.inl rfl) (pcall c.text hr (pa_cons (pv 1) (pa_cons (pv 2) pa_nil))))
      (C8.pss_cut (ps_if (pt_cmpR op_eq (pv 10) pe_int (nomark _))
        (pss_one (ps_set (i := 12) scLaw.nd rfl (Or.inl rfl) pe_non))
        pss_nil)
      (C8.pss_cut (ps_if (pt_cmpR op_ne (pv 10) pe_int (nomark _))
        (pss_one (ps_set (i := 8) scLaw.nd rfl (Or.inl rfl) (pcall c.changed hr (pa_cons (pv 8) (pa_cons (pv 11) (pa_cons (pv 12) pa_nil))))))
        pss_nil)
      (C8.pss_cut (ps_if (PW.pt (pw_and (pt_cmpR op_ne (pv 10) pe_int (nomark _)) (pw_and1 (pt_cmpR op_ne (pv 10) pe_int (nomark _)))))
        (pss_one (ps_set (i := 9) scLaw.nd rfl (Or.inl rfl) (pcall c.changed hr (pa_cons (pv 9) (pa_cons (pv 11) (pa_cons (pv 12) pa_nil))))))
        pss_nil)
      (pss_one (ps_if (pt_cmpR op_eq (pv 10) pe_int (nomark _))
        (pss_one (ps_set (i := 9) scLaw.nd rfl (Or.inl rfl) (pcall c.changed hr (pa_cons (pv 9) (pa_cons (pixL (pv 5) (pcall c.draw hr (pa_cons (pv 1) (pa_cons pe_int pa_nil)))) (pa_cons pe_non pa_nil))))))
        pss_nil)))))))))
    (C8.pss_cut (ps_if (PW.pt (pw_or (pt_not (pt_truth (pcall c.merges hr (pa_cons (pv 2) (pa_cons (pv 6) (pa_cons (pv 8) (pa_cons (pv 9) pa_nil))))) (by intro _; rfl))) (pw_or1 (pt_not (pt_truth (pcall c.merges hr (pa_cons (pv 2) (pa_cons (pv 6) (pa_cons (pv 9) (pa_cons (pv 8) pa_nil))))) (by intro _; rfl))))))
      (pss_one (ps_ret pe_bl))
      pss_nil)
    (C8.pss_cut (ps_if (PW.pt (pw_or (pt_not (pt_truth (pcall c.merges hr (pa_cons (pv 2) (pa_cons (pv 6) (pa_cons (pv 8) (pa_cons (pv 6) pa_nil))))) (by intro _; rfl))) (pw_or1 (pt_not (pt_truth (pcall c.merges hr (pa_cons (pv 2) (pa_cons (pv 6) (pa_cons (pv 6) (pa_cons (pv 9) pa_nil))))) (by intro _; rfl))))))
      (pss_one (ps_ret pe_bl))
      pss_nil)
    (C8.pss_cut (ps_if (PW.pt (pw_or (pt_not (pt_truth (pcall c.merges hr (pa_cons (pv 2) (pa_cons (pv 6) (pa_cons (pv 8) (pa_cons (pv 8) pa_nil))))) (by intro _; rfl))) (pw_or1 (pt_not (pt_truth (pcall c.merges hr (pa_cons (pv 2) (pa_cons (pe_lst pa_nil) (pa_cons (pv 8) (pa_cons (pv 9) pa_nil))))) (by intro _; rfl))))))
      (pss_one (ps_ret pe_bl))
      pss_nil)
    (C8.pss_cut (ps_if (PW.pt (pw_and (pt_cmpR (op_eqD hr.units) (pixL (pcall c.due hr (pa_cons (pv 6) (pa_cons (pv 8) (pa_cons (pv 9) pa_nil)))) pe_int) (pe_lst pa_nil) (nomark _)) (pw_and1 (pt_not (pt_truth (pcall c.again hr (pa_cons (pv 2) (pa_cons (pv 6) (pa_cons (pv 8) (pa_cons (pv 9) pa_nil))))) (by intro _; rfl))))))
      (pss_one (ps_ret pe_bl))
      pss_nil)
    (C8.pss_cut (ps_if (PW.pt (pw_and (pt_cmpR op_eq (pcall c.draw hr (pa_cons (pv 1) (pa_cons pe_int pa_nil))) pe_int (nomark _)) (pw_and1 (pt_not (pt_truth (pcall c.large hr (pa_cons (pv 1) (pa_cons (pv 2) pa_nil))) (by intro _; rfl))))))
      (pss_one (ps_ret pe_bl))
      pss_nil)
    (C8.pss_cut (ps_set (i := 13) scLaw.nd rfl (Or.inl rfl) (pe_make mb Fb (hr.mono (by decide)) (by rfl) c.T.mgC bb vb pass0 (pa_cons (pixL (pe_lst (pa_cons pe_str (pa_cons pe_str (pa_cons pe_str pa_nil)))) (pcall c.draw hr (pa_cons (pv 1) (pa_cons pe_int pa_nil)))) pa_nil)))
    (pss_cons (ps_set (i := 14) scLaw.nd rfl (Or.inl rfl) (pe_lst (pa_cons (pcall c.book hr (pa_cons (pv 2) (pa_cons (pv 6) (pa_cons pe_int pa_nil)))) (pa_cons (pcall c.book hr (pa_cons (pv 2) (pa_cons (pv 8) (pa_cons pe_int pa_nil)))) (pa_cons (pcall c.book hr (pa_cons (pv 2) (pa_cons (pv 9) (pa_cons pe_int pa_nil)))) pa_nil)))))
    (pss_cons (ps_set (i := 15) scLaw.nd rfl (Or.inl rfl) (pe_lst (pa_cons pe_str (pa_cons pe_str (pa_cons pe_str (pa_cons pe_bl pa_nil))))))
    (pss_cons (ps_set (i := 16) scLaw.nd rfl (Or.inl rfl) (pe_lst (pa_cons (pcall c.merged hr (pa_cons (pv 13) (pa_cons (pixL (pv 14) pe_int) (pa_cons (pixL (pv 14) pe_int) pa_nil)))) (pa_cons (pcall c.merged hr (pa_cons (pixL (pv 14) pe_int) (pa_cons (pv 13) (pa_cons (pixL (pv 14) pe_int) pa_nil)))) (pa_cons (pcall c.merged hr (pa_cons (pixL (pv 14) pe_int) (pa_cons (pixL (pv 14) pe_int) (pa_cons (pv 13) pa_nil)))) pa_nil)))))
    (pss_one (ps_ret (pcall c.same hr (pa_cons (pv 16) (pa_cons (pe_lst (pa_cons (pv 15) (pa_cons (pv 15) (pa_cons (pv 15) pa_nil)))) pa_nil)))))))))))))))))))))))), ?_⟩
  refine ⟨_, rfl, a0, ns, rfl, hS, hn, hb, fun a pp H1 s1 S1 => ?_⟩
  refine ⟨_, rfl, a, 3, rfl, by omega, by omega, _, S1, fun al H2 hal la B2 S2 => ?_⟩
  obtain ⟨hA, h120⟩ := hal.ok2 (by omega)
  have n1 := hA.n1
  have n3 := hA.n3
  refine ⟨_, rfl, a, 20, rfl, by omega, by omega, _, S2, fun t H3 t0 t1 B3 S3 => ?_⟩
  clear hS s1 S1 B2 S2 B3
  -- names
  refine ⟨fun σ' H' => ∃ N, σ' = [some (.ref a0), some (.ref a), some (.str (S al)), some (.str "abcdefghijklmnopqrstuvwxyz"), some (.int t), some (.ref N), none, none, none, none, none, none, none, none, none, none, none] ∧ StOk K H' a pp ∧ H' N = some (.lst (sgs (nm5 t.toNat))), ?_, ?_⟩
  · refine ⟨_, rfl, _, rfl, S small, t, _, by rw [small_eq], rfl, by decide, small_at t0 (by omega), _, rfl, _, rfl, _, _, rfl, rfl, S small, t + 1, _, by rw [small_eq], rfl, by decide, small_at (by omega) (by omega), _, _, rfl, rfl, sz (by show 1 + 1 ≤ 100000; decide),
      _, rfl, _, rfl, _, _, rfl, rfl, S small, t + 2, _, by rw [small_eq], rfl, by decide, small_at (by omega) (by omega), _, rfl, _, rfl, S small, t, _, by rw [small_eq], rfl, by decide, small_at t0 (by omega), _, _, rfl, rfl, sz (by show 1 + 1 ≤ 100000; decide),
      _, rfl, _, rfl, _, _, rfl, rfl, S small, t + 3, _, by rw [small_eq], rfl, by decide, small_at (by omega) (by omega), _, _, rfl, rfl, sz (by show 1 + 2 ≤ 100000; decide), by show 5 ≤ sizeLine; decide, fun N hN => ⟨N, rfl, S3.mono (same_new hN _), ?_⟩⟩
    rw [upd_same]
    show some (HO.lst [V.str (S [t.toNat + 97]), V.str (S [(t + 1).toNat + 97] ++ "0"), V.str (S [(t + 2).toNat + 97]), V.str (S [t.toNat + 97] ++ "b"), V.str (S [(t + 3).toNat + 97] ++ "9z")]) = _
    rw [c48, c98, c57z, S_app, S_app, S_app, show (t + 1).toNat + 97 = t.toNat + 98 by omega, show (t + 2).toNat + 97 = t.toNat + 99 by omega, show (t + 3).toNat + 97 = t.toNat + 100 by omega]
    rfl
  rintro σ' H4 ⟨N, rfl, S4, hN4⟩
  have hnok := nm5_ok (t := t.toNat) (by omega)
  have hn5 : (nm5 t.toNat).length = 5 := rfl
  generalize nm5 t.toNat = nm at *
  -- base
  refine ⟨Nat.zero_le _, fun l hl => ?_⟩
  have LB : LI K (upd H4 l (.lst [])) a pp N al nm l l l [] [] [] := by
    have s5 := same_new hl (.lst [])
    have hp : Prs (upd H4 l (.lst [])) l [] := ⟨[], upd_same, .nil⟩
    exact ⟨S4.mono s5, s5 _ _ hN4, hp, hp, hp, .nil, .nil, .nil⟩
  generalize upd H4 l (.lst []) = H5 at *
  clear hl S4 hN4 S3
  refine ⟨fun σ' H' => ∃ (l0 : Addr) (x7 : Option V) (e0 : List Ent), σ' = [some (.ref a0), some (.ref a), some (.str (S al)), some (.str "abcdefghijklmnopqrstuvwxyz"), some (.int t), some (.ref N), some (.ref l0), x7, none, none, none, none, none, none, none, none, none] ∧ LI K H' a pp N al nm l0 l0 l0 e0 e0 e0, ?_, ?_⟩
  · refine ⟨_, rfl, a, 6, rfl, by omega, by omega, _, LB.s, fun n H6 n0 n1 B6 S6 => ⟨_, rfl, by omega, by omega, ?_⟩⟩
    refine for_range (lo := 0) (n := n.toNat) (fun i σ' H' => ∃ (l0 : Addr) (x7 : Option V) (e0 : List Ent), σ' = [some (.ref a0), some (.ref a), some (.str (S al)), some (.str "abcdefghijklmnopqrstuvwxyz"), some (.int t), some (.ref N), some (.ref l0), x7, none, none, none, none, none, none, none, none, none] ∧ LI K H' a pp N al nm l0 l0 l0 e0 e0 e0) ⟨l, none, [], rfl, LB.but B6 S6⟩ ?_ (fun σ' H' h => h)
    rintro i σ H7 hi ⟨l0, x7, e0, rfl, I7⟩
    refine ⟨_, rfl, _, rfl, _, rfl, a, 5, rfl, by omega, by omega, _, I7.s, fun u H8 u0 u1 B8 S8 => ?_⟩
    have I8 := I7.but B8 S8
    obtain ⟨nn, hnn, hat⟩ := at_sgs (ns := nm) u0 (by rw [hn5]; omega)
    refine ⟨N, _, _, _, rfl, rfl, SqL.of I8.n, hat, _, rfl, _, rfl, a, al, rfl, hA, _, I8.s, fun tx H9 htx B9 S9 => ?_⟩
    have I9 := I8.but B9 S9
    have len := I9.o0.len
    refine ⟨l0, e0, nn, some tx, rfl, I9.p0, by omega, fun l' H10 s10 P10 => ⟨l', _, changeE e0 nn (some tx), rfl, ?_⟩⟩
    have I10 := I9.mono s10
    have o := I9.o0.change (t := some tx) hnn (fun x hx => by cases hx; exact htx)
    exact ⟨I10.s, I10.n, P10, P10, P10, o, o, o⟩
  rintro σ' H6 ⟨l0, x7, e0, rfl, I6⟩
  clear LB
  -- one, other
  have cp : ∀ {H : Hp} {l : Addr} {es : List Ent}, Prs H l es → ∃ xs, SqL K H l xs ∧ ∀ r, H r = none → Prs (upd H r (.lst xs)) r es := fun {H} {l} {es} ⟨ts, h1, h2⟩ => ⟨_, SqL.of h1, fun r hr => ⟨ts, upd_same, Paired.mapP h2 fun _ _ z => same_new hr _ _ _ z⟩⟩
  obtain ⟨xs, hx, hc⟩ := cp I6.p0
  refine ⟨_, rfl, l0, xs, rfl, .inl hx, fun l1 hl1 => ?_⟩
  have s7 := same_new hl1 (.lst xs)
  have P7 := hc l1 hl1
  generalize upd H6 l1 (.lst xs) = H7 at *
  have I7 := I6.mono s7
  clear hx hc hl1 s7 I6
  obtain ⟨xs, hx, hc⟩ := cp I7.p0
  refine ⟨fun σ' H' => ∃ (l0 l1 l2 : Addr) (x7 : Option V) (e0 e1 e2 : List Ent), σ' = lawS a0 a al t N l0 l1 l2 x7 none none none ∧ LI K H' a pp N al nm l0 l1 l2 e0 e1 e2, ?_, ?_⟩
  · refine ⟨_, rfl, l0, xs, rfl, .inl hx, fun l2 hl2 => ?_⟩
    have s8 := same_new hl2 (.lst xs)
    have P8 := hc l2 hl2
    have I8 := I7.mono s8
    exact ⟨l0, l1, l2, x7, e0, e0, e0, rfl, I8.s, I8.n, I8.p0, P7.mono s8, P8, I8.o0, I8.o0, I8.o0⟩
  clear hx hc I7 P7
  rintro σ' H8 ⟨l0, l1, l2, x7, e0, e1, e2, rfl, I8⟩
  refine ⟨fun σ' H' => ∃ (l0 l1 l2 : Addr) (x7 x10 x11 x12 : Option V) (e0 e1 e2 : List Ent), σ' = lawS a0 a al t N l0 l1 l2 x7 x10 x11 x12 ∧ LI K H' a pp N al nm l0 l1 l2 e0 e1 e2, ?_, ?_⟩
  · refine ⟨_, rfl, a, 6, rfl, by omega, by omega, _, I8.s, fun n H9 n0 n1 B9 S9 => ⟨_, rfl, by omega, by omega, ?_⟩⟩
    refine for_range (lo := 0) (n := n.toNat) (fun i σ' H' => ∃ (l0 l1 l2 : Addr) (x7 x10 x11 x12 : Option V) (e0 e1 e2 : List Ent), σ' = lawS a0 a al t N l0 l1 l2 x7 x10 x11 x12 ∧ LI K H' a pp N al nm l0 l1 l2 e0 e1 e2) ⟨l0, l1, l2, x7, none, none, none, e0, e1, e2, rfl, I8.but B9 S9⟩ ?_ (fun σ' H' h => h)
    rintro i σ H10 hi ⟨l0, l1, l2, x7, x10, x11, x12, e0, e1, e2, rfl, I10⟩
    refine ⟨_, rfl, a, 5, rfl, by omega, by omega, _, I10.s, fun ww H11 w0 w1 B11 S11 => ?_⟩
    have I11 := I10.but B11 S11
    refine ⟨_, rfl, _, rfl, a, 5, rfl, by omega, by omega, _, I11.s, fun u H12 u0 u1 B12 S12 => ?_⟩
    have I12 := I11.but B12 S12
    obtain ⟨nn, hnn, hat⟩ := at_sgs (ns := nm) u0 (by rw [hn5]; omega)
    refine ⟨N, _, _, _, rfl, rfl, SqL.of I12.n, hat, ?_⟩
    refine ⟨_, rfl, _, rfl, a, al, rfl, hA, _, I12.s, fun tx H13 htx B13 S13 => ?_⟩
    have I13 := I12.but B13 S13
    -- text = None
    refine ⟨fun σ' H' => ∃ (y7 : Option V) (tt : Option (List Nat)), σ' = lawS a0 a al t N l0 l1 l2 y7 (some (.int ww)) (some (.str (S nn))) (some (oV tt)) ∧ (∀ x, tt = some x → TextOk al x) ∧ LI K H' a pp N al nm l0 l1 l2 e0 e1 e2, ?_, ?_⟩
    · refine ⟨_, rfl, rfl, _, rfl, ?_⟩
      refine ite2 (fun _ => ⟨_, none, rfl, (fun x hx => nomatch hx), I13⟩) (fun _ => ⟨_, some tx, rfl, (fun x hx => by cases hx; exact htx), I13⟩)
    rintro σ' H14 ⟨y7, tt, rfl, htt, I14⟩
    clear I13 I12 I11 I10 B11 B12 B13 S11 S12 S13
    -- one
    refine ⟨fun σ' H' => ∃ (l1 : Addr) (e1 : List Ent), σ' = lawS a0 a al t N l0 l1 l2 y7 (some (.int ww)) (some (.str (S nn))) (some (oV tt)) ∧ LI K H' a pp N al nm l0 l1 l2 e0 e1 e2, ?_, ?_⟩
    · refine ⟨_, rfl, rfl, _, rfl, ?_⟩
      refine ite2 (fun _ => ?_) (fun _ => ⟨l1, e1, rfl, I14⟩)
      have len := I14.o1.len
      refine ⟨_, rfl, _, rfl, _, rfl, l1, e1, nn, tt, rfl, I14.p1, by omega, fun l' H15 s15 P15 => ⟨l', changeE e1 nn tt, rfl, ?_⟩⟩
      have I15 := I14.mono s15
      exact ⟨I15.s, I15.n, I15.p0, P15, I15.p2, I15.o0, I14.o1.change hnn htt, I15.o2⟩
    clear I14
    rintro σ' H15 ⟨l1, e1, rfl, I15⟩
    -- other
    refine ⟨fun σ' H' => ∃ (l2 : Addr) (e2 : List Ent), σ' = lawS a0 a al t N l0 l1 l2 y7 (some (.int ww)) (some (.str (S nn))) (some (oV tt)) ∧ LI K H' a pp N al nm l0 l1 l2 e0 e1 e2, ?_, ?_⟩
    · have len := I15.o2.len
      refine ⟨_, rfl, rfl, _, rfl, ?_⟩
      refine ite2 (fun _ => ?_) (fun _ => ?_)
      · refine ⟨_, rfl, rfl, _, rfl, ?_⟩
        refine ite2 (fun _ => ?_) (fun _ => ⟨l2, e2, rfl, I15⟩)
        refine ⟨_, rfl, _, rfl, _, rfl, l2, e2, nn, tt, rfl, I15.p2, by omega, fun l' H16 s16 P16 => ⟨l', changeE e2 nn tt, rfl, ?_⟩⟩
        have I16 := I15.mono s16
        exact ⟨I16.s, I16.n, I16.p0, I16.p1, P16, I16.o0, I16.o1, I15.o2.change hnn htt⟩
      · exact ite2 (fun z => (by cases z)) (fun _ => ⟨l2, e2, rfl, I15⟩)
    clear I15
    rintro σ' H16 ⟨l2, e2, rfl, I16⟩
    refine ⟨_, rfl, rfl, _, rfl, ?_⟩
    refine ite2 (fun _ => ?_) (fun _ => ⟨_, _, _, _, _, _, _, e0, e1, e2, rfl, I16⟩)
    refine ⟨_, rfl, _, rfl, _, rfl, a, 5, rfl, by omega, by omega, _, I16.s, fun u H17 u0 u1 B17 S17 => ?_⟩
    have I17 := I16.but B17 S17
    obtain ⟨mm, hmm, hat⟩ := at_sgs (ns := nm) u0 (by rw [hn5]; omega)
    have len := I17.o2.len
    refine ⟨N, _, _, _, rfl, rfl, SqL.of I17.n, hat, l2, e2, mm, none, rfl, I17.p2, by omega, fun l' H18 s18 P18 => ⟨_, _, l', _, _, _, _, e0, e1, changeE e2 mm none, rfl, ?_⟩⟩
    have I18 := I17.mono s18
    exact ⟨I18.s, I18.n, I18.p0, I18.p1, P18, I18.o0, I18.o1, I17.o2.change (t := none) hmm (fun x hx => nomatch hx)⟩
  clear I8
  rintro σ' H8 ⟨l0, l1, l2, x7, x10, x11, x12, e0, e1, e2, rfl, I8⟩
  have z0 := I8.o0.len
  have z1 := I8.o1.len
  have z2 := I8.o2.len
  have O0 := I8.o0.ents hA hnok
  have O1 := I8.o1.ents hA hnok
  have O2 := I8.o2.ents hA hnok
  refine ⟨fun σ' H' => σ' = lawS a0 a al t N l0 l1 l2 x7 x10 x11 x12 ∧ LI K H' a pp N al nm l0 l1 l2 e0 e1 e2, ?_, ?_⟩
  · refine ⟨_, rfl, _, rfl, _, rfl, _, rfl, l0, l1, l2, al, e0, e1, e2, rfl, hA, I8.p0, I8.p1, I8.p2, O0, O1, O2, by omega, by omega, by omega, fun H9 s9 => ⟨_, rfl, ?_⟩⟩
    refine ite2 (fun z => (by cases z)) (fun _ => ?_)
    have I9 := I8.mono s9
    refine ⟨_, rfl, _, rfl, _, rfl, _, rfl, l0, l2, l1, al, e0, e2, e1, rfl, hA, I9.p0, I9.p2, I9.p1, O0, O2, O1, by omega, by omega, by omega, fun H10 s10 => ⟨_, rfl, ?_⟩⟩
    exact ite2 (fun z => (by cases z)) (fun _ => ⟨rfl, I9.mono s10⟩)
  clear I8
  rintro σ' H8 ⟨rfl, I8⟩
  refine ⟨fun σ' H' => σ' = lawS a0 a al t N l0 l1 l2 x7 x10 x11 x12 ∧ LI K H' a pp N al nm l0 l1 l2 e0 e1 e2, ?_, ?_⟩
  · refine ⟨_, rfl, _, rfl, _, rfl, _, rfl, l0, l1, l0, al, e0, e1, e0, rfl, hA, I8.p0, I8.p1, I8.p0, O0, O1, O0, by omega, by omega, by omega, fun H9 s9 => ⟨_, rfl, ?_⟩⟩
    refine ite2 (fun z => (by cases z)) (fun _ => ?_)
    have I9 := I8.mono s9
    refine ⟨_, rfl, _, rfl, _, rfl, _, rfl, l0, l0, l2, al, e0, e0, e2, rfl, hA, I9.p0, I9.p0, I9.p2, O0, O0, O2, by omega, by omega, by omega, fun H10 s10 => ⟨_, rfl, ?_⟩⟩
    exact ite2 (fun z => (by cases z)) (fun _ => ⟨rfl, I9.mono s10⟩)
  clear I8
  rintro σ' H8 ⟨rfl, I8⟩
  refine ⟨fun σ' H' => σ' = lawS a0 a al t N l0 l1 l2 x7 x10 x11 x12 ∧ LI K H' a pp N al nm l0 l1 l2 e0 e1 e2, ?_, ?_⟩
  · refine ⟨_, rfl, _, rfl, _, rfl, _, rfl, l0, l1, l1, al, e0, e1, e1, rfl, hA, I8.p0, I8.p1, I8.p1, O0, O1, O1, by omega, by omega, by omega, fun H9 s9 => ⟨_, rfl, ?_⟩⟩
    refine ite2 (fun z => (by cases z)) (fun _ => ?_)
    have I9 := I8.mono s9
    refine ⟨_, rfl, Nat.zero_le _, fun m hm => ?_⟩
    have s10 := same_new hm (.lst [])
    have I10 := I9.mono s10
    refine ⟨_, rfl, _, rfl, m, l1, l2, al, [], e1, e2, rfl, hA, ⟨[], upd_same, .nil⟩, I10.p1, I10.p2, ⟨List.nodup_nil, fun e h => (by cases h)⟩, O1, O2, by decide, by omega, by omega, fun H11 s11 => ⟨_, rfl, ?_⟩⟩
    exact ite2 (fun z => (by cases z)) (fun _ => ⟨rfl, I10.mono s11⟩)
  clear I8
  rintro σ' H8 ⟨rfl, I8⟩
  -- again
  refine ⟨fun σ' H' => σ' = lawS a0 a al t N l0 l1 l2 x7 x10 x11 x12 ∧ LI K H' a pp N al nm l0 l1 l2 e0 e1 e2, ?_, ?_⟩
  · refine ⟨_, rfl, _, rfl, _, rfl, l0, l1, l2, e0, e1, e2, rfl, I8.p0, I8.p1, I8.p2, by omega, by omega, fun D k cl H9 s9 hD hk hcl => ⟨D, _, _, _, rfl, rfl, SqL.of hD, rfl, Nat.zero_le _, fun m hm => ?_⟩⟩
    have s10 := same_new hm (.lst [])
    have I10 := (I8.mono s9).mono s10
    refine ⟨.list ((clashE e0 e1 e2).map fun n => .str (S n)), .list [], .lst (SqL.of (s10 _ _ hcl)) (dp_sgs _), .lst (SqL.of upd_same) .nil, shaped_names fun n hn => name_small (clash_ok O1 O2 n hn), by decide +kernel, _, rfl, ?_⟩
    refine ite2 (fun _ => ?_) (fun _ => ite2 (fun z => (by cases z)) (fun _ => ⟨rfl, I10⟩))
    refine ⟨_, rfl, _, rfl, _, rfl, _, rfl, l0, l1, l2, al, e0, e1, e2, rfl, hA, I10.p0, I10.p1, I10.p2, O1, O2, by omega, by omega, fun H11 s11 => ⟨_, rfl, ?_⟩⟩
    exact ite2 (fun z => (by cases z)) (fun _ => ⟨rfl, I10.mono s11⟩)
  clear I8
  rintro σ' H8 ⟨rfl, I8⟩
  -- large
  refine ⟨fun σ' H' => σ' = lawS a0 a al t N l0 l1 l2 x7 x10 x11 x12 ∧ LI K H' a pp N al nm l0 l1 l2 e0 e1 e2, ?_, ?_⟩
  · refine ⟨_, rfl, a, 16, rfl, by omega, by omega, _, I8.s, fun u H9 u0 u1 B9 S9 => ⟨rfl, _, rfl, ?_⟩⟩
    have I9 := I8.but B9 S9
    refine ite2 (fun _ => ?_) (fun _ => ite2 (fun z => (by cases z)) (fun _ => ⟨rfl, I9⟩))
    refine ⟨_, rfl, _, rfl, a, al, rfl, hA, _, I9.s, fun H10 B10 S10 => ⟨_, rfl, ?_⟩⟩
    exact ite2 (fun z => (by cases z)) (fun _ => ⟨rfl, I9.but B10 S10⟩)
  clear I8
  rintro σ' H8 ⟨rfl, I8⟩
  -- far
  refine ⟨fun σ' H' => ∃ (fr : Addr) (fa : List Nat), σ' = [some (.ref a0), some (.ref a), some (.str (S al)), some (.str "abcdefghijklmnopqrstuvwxyz"), some (.int t), some (.ref N), some (.ref l0), x7, some (.ref l1), some (.ref l2), x10, x11, x12, some (.ref fr), none, none, none] ∧ LI K H' a pp N al nm l0 l1 l2 e0 e1 e2 ∧ BookE H' fr C CP fa 20 [] ∧ fa ≠ al, ?_, ?_⟩
  · refine ⟨by show 3 ≤ sizeLine; decide, fun m hm => ?_⟩
    have s9 := same_new hm (.lst [.str "y", .str "z", .str "yz"])
    have hm9 : upd H8 m (.lst [.str "y", .str "z", .str "yz"]) m = some (.lst [.str "y", .str "z", .str "yz"]) := upd_same
    have nma : m ≠ a := fun z => by
      obtain ⟨i', v', l', m', h9⟩ := I8.s.at_
      rw [← z, hm] at h9
      cases h9
    have I9 := I8.mono s9
    refine ⟨_, rfl, a, 3, rfl, by omega, by omega, _, I9.s, fun u H10 u0 u1 B10 S10 => ?_⟩
    obtain ⟨fa, hAf, h121, hat⟩ := far_at u0 u1
    have I10 := I9.but B10 S10
    refine ⟨m, _, _, _, rfl, rfl, SqL.of (B10 _ _ nma hm9), hat, fun b dx hb hdx hne => ?_⟩
    have sb : Same H10 (upd (upd H10 dx (.own b)) b (.ins C dx [])) := (same_new hdx (.own b)).trans (same_new (by rw [upd_ne (Ne.symm hne)]; exact hb) _)
    refine ⟨b, dx, fa, 20, rfl, upd_same, hAf, by decide, fun H11 td pd f1 f2 bt nt np G => ⟨rfl, b, fa, rfl, ?_, ⟨dx, td, pd, f1, f2, G⟩, fun z => ?_⟩⟩
    · exact I10.mono fun b' o e => bt b' o (fun z => by rw [z, hb] at e; cases e) (sb b' o e)
    · subst z
      cases fa with
      | nil => cases hAf.n1
      | cons c r =>
        have h3 := h121 c List.mem_cons_self
        have h4 := h120 c List.mem_cons_self
        omega
  clear I8
  rintro σ' H8 ⟨fr, fa, rfl, I8, Bf, hne⟩
  -- books
  refine ⟨_, rfl, _, rfl, l0, al, 20, e0, rfl, hA, I8.p0, O0, by omega, by decide, fun b0 H9 s9 ⟨dx0, td0, pd0, f10, f20, G0, _⟩ => ?_⟩
  have I9 := I8.mono s9
  refine ⟨_, rfl, _, rfl, l1, al, 20, e1, rfl, hA, I9.p1, O1, by omega, by decide, fun b1 H10 s10 ⟨dx1, td1, pd1, f11, f21, G1, _⟩ => ?_⟩
  have I10 := I9.mono s10
  refine ⟨_, rfl, _, rfl, l2, al, 20, e2, rfl, hA, I10.p2, O2, by omega, by decide, fun b2 H11 s11 ⟨dx2, td2, pd2, f12, f22, G2, _⟩ => ?_⟩
  refine ⟨by show 3 ≤ sizeLine; decide, fun BL hBL => ?_⟩
  have s12 := same_new hBL (.lst [.ref b0, .ref b1, .ref b2])
  have hB : upd H11 BL (.lst [.ref b0, .ref b1, .ref b2]) BL = some (.lst [.ref b0, .ref b1, .ref b2]) := upd_same
  have Bf := Bf.mono (s9.trans (s10.trans (s11.trans s12)))
  have B0 : BookE (upd H11 BL (.lst [.ref b0, .ref b1, .ref b2])) b0 C CP al 20 e0 := BookE.mono ⟨dx0, td0, pd0, f10, f20, G0⟩ (s10.trans (s11.trans s12))
  have B1 : BookE (upd H11 BL (.lst [.ref b0, .ref b1, .ref b2])) b1 C CP al 20 e1 := BookE.mono ⟨dx1, td1, pd1, f11, f21, G1⟩ (s11.trans s12)
  have B2 : BookE (upd H11 BL (.lst [.ref b0, .ref b1, .ref b2])) b2 C CP al 20 e2 := BookE.mono ⟨dx2, td2, pd2, f12, f22, G2⟩ s12
  generalize upd H11 BL (.lst [.ref b0, .ref b1, .ref b2]) = H12 at *
  clear hBL s12 G0 G1 G2 I8 I9 I10
  refine ⟨by show 4 ≤ sizeLine; decide, fun mx hmx => ?_⟩
  have s13 := same_new hmx (.lst mxV)
  have hm13 : upd H12 mx (.lst mxV) mx = some (.lst mxV) := upd_same
  replace s13 : Same H12 (upd H12 mx (.lst [.str "ValueError", .str "ToolError", .str "MixedLetters", .bl false])) := s13
  replace hm13 : upd H12 mx (.lst [.str "ValueError", .str "ToolError", .str "MixedLetters", .bl false]) mx = some (.lst mxV) := hm13
  generalize upd H12 mx (.lst [.str "ValueError", .str "ToolError", .str "MixedLetters", .bl false]) = H13 at *
  have hB := s13 _ _ hB
  have Bf := Bf.mono s13
  have B0 := B0.mono s13
  have B1 := B1.mono s13
  have B2 := B2.mono s13
  clear hmx s13
  -- told
  refine ⟨_, rfl, _, rfl, BL, _, _, _, rfl, rfl, SqL.of hB, rfl, _, rfl, BL, _, _, _, rfl, rfl, SqL.of hB, rfl, fr, b1, b2, fa, al, al, 20, 20, 20, [], e1, e2, rfl, Bf, B1, B2, O1.u, O2.u, fun _ t1 H14 s14 ht1 => ?_, fun h _ => absurd h.symm hne⟩
  have hB4 := s14 _ _ hB
  refine ⟨_, rfl, BL, _, _, _, rfl, rfl, SqL.of hB4, rfl, _, rfl, _, rfl, BL, _, _, _, rfl, rfl, SqL.of hB4, rfl, b0, fr, b2, al, fa, al, 20, 20, 20, e0, [], e2, rfl, B0.mono s14, Bf.mono s14, B2.mono s14, List.nodup_nil, O2.u, fun _ t2 H15 s15 ht2 => ?_, fun h _ => absurd h hne⟩
  have hB5 := s15 _ _ hB4
  have s35 := s14.trans s15
  refine ⟨_, rfl, BL, _, _, _, rfl, rfl, SqL.of hB5, rfl, _, rfl, BL, _, _, _, rfl, rfl, SqL.of hB5, rfl, _, rfl, b0, b1, fr, al, al, fa, 20, 20, 20, e0, e1, [], rfl, B0.mono s35, B1.mono s35, Bf.mono s35, O1.u, List.nodup_nil, fun _ t3 H16 s16 ht3 => ?_, fun _ h => absurd h hne⟩
  refine ⟨by show 3 ≤ sizeLine; decide, fun T hT => ?_⟩
  have s17 := same_new hT (.lst [.ref t1, .ref t2, .ref t3])
  have hT7 : upd H16 T (.lst [.ref t1, .ref t2, .ref t3]) T = some (.lst [.ref t1, .ref t2, .ref t3]) := upd_same
  have h17 := s17 _ _ (s16 _ _ (s15 _ _ ht1))
  have h27 := s17 _ _ (s16 _ _ ht2)
  have h37 := s17 _ _ ht3
  have hm7 := s17 _ _ (s16 _ _ (s35 _ _ hm13))
  generalize upd H16 T (.lst [.ref t1, .ref t2, .ref t3]) = H17 at *
  refine ⟨_, rfl, _, rfl, _, rfl, _, rfl, by show 3 ≤ sizeLine; decide, fun y hy => ?_⟩
  have s18 := same_new hy (.lst [.ref mx, .ref mx, .ref mx])
  have hy8 : upd H17 y (.lst [.ref mx, .ref mx, .ref mx]) y = some (.lst [.ref mx, .ref mx, .ref mx]) := upd_same
  have d1 := mx_dp (K := K) (s18 _ _ h17)
  have d2 := mx_dp (K := K) (s18 _ _ h27)
  have d3 := mx_dp (K := K) (s18 _ _ h37)
  have dm := mx_dp (K := K) (s18 _ _ hm7)
  refine ⟨.ref T, .ref y, .list [mxD, mxD, mxD], .list [mxD, mxD, mxD], rfl, .lst (SqL.of (s18 _ _ hT7)) (.cons d1 (.cons d2 (.cons d3 .nil))), .lst (SqL.of hy8) (.cons dm (.cons dm (.cons dm .nil))), ?_, fun b H19 s19 hb => ?_⟩
  · refine ⟨by show 3 ≤ 100000; decide, fun d hd => ?_⟩
    rcases List.mem_cons.mp hd with rfl | hd
    · exact mx_ok
    rcases List.mem_cons.mp hd with rfl | hd
    · exact mx_ok
    rw [List.mem_singleton.mp hd]
    exact mx_ok
  · have hb1 := hb.mpr rfl
    subst hb1
    exact q _
end
end W8

set_option Elab.async false
set_option linter.all false
set_option maxRecDepth 100000
set_option maxHeartbeats 4000000
namespace W8
open PySem PySem.Spec PyProof.Rows L2 L2E
abbrev sBRoom : Stmt := inClass (top 53) 1
theorem scBRoom : FnScope ["self"] ["self"] (defScope sBRoom) := ⟨rfl, rfl, rfl, by decide +kernel, rfl, by decide +kernel, by decide +kernel⟩
theorem ok_room {P : Program} {w : World} {K : PySem.W.Frag} {mg : Str → Option Value} {base : Heap} {g C : Addr} {fd : FuncData} (F : Fun K "room" "Book.room" sBRoom g fd) (T : BkT K mg C) : FnOk P w K mg base CX0 1 g fd ["self"] (getSp C "_room") := by
  obtain ⟨oc, od, kV', doc, pm, an, cdv, ct, osl, rfl, lk, hcd⟩ := F.ex
  exact fn_getter (N := ["self"]) lk hcd scBRoom rfl rfl T.cl T.nR
theorem bd_of {K : PySem.W.Frag} {w : World} {D : Addr} {es : Array DictEntry} {n : Nat} {t0 t1 t2 t3 t4 : Tok} (l : K.lookup D = some ⟨.type "dict", none, .dict es n, #[]⟩) (k : PySem.W.KeysLit w.params es.toList)
    (h0 : PySem.W.nsIn K D "(" = some (some (.int 0 t0))) (h1 : PySem.W.nsIn K D "|" = some (some (.int 1 t1))) (h2 : PySem.W.nsIn K D "&" = some (some (.int 2 t2))) (h3 : PySem.W.nsIn K D "+" = some (some (.int 3 t3))) (h4 : PySem.W.nsIn K D "~" = some (some (.int 4 t4))) :
    ∀ c b, RS.bind c = some b → KDct K w D (S [c]) (.int (b : Int)) := by
  intro c b h
  unfold RS.bind at h
  have c38 : ("&" : Str) = S [38] := by decide +kernel
  split at h
  · rename_i e; cases h; rw [e, ← c40]; exact ⟨es, n, _, l, k, h0, ⟨_, rfl⟩⟩
  split at h
  · rename_i e; cases h; rw [e, ← c124]; exact ⟨es, n, _, l, k, h1, ⟨_, rfl⟩⟩
  split at h
  · rename_i e; cases h; rw [e, ← c38]; exact ⟨es, n, _, l, k, h2, ⟨_, rfl⟩⟩
  split at h
  · rename_i e; cases h; rw [e, ← c43]; exact ⟨es, n, _, l, k, h3, ⟨_, rfl⟩⟩
  split at h
  · rename_i e; cases h; rw [e, ← c126]; exact ⟨es, n, _, l, k, h4, ⟨_, rfl⟩⟩
  cases h
theorem bi_fd {K : PySem.W.Frag} {f dt : Addr} {oc kV doc pm cdv ct dcl : Value} {od an ddx : Option Addr} {osl dsl : Array (Option Value)} {tk : Tok} {n : Nat} (lk : K.lookup f = some ⟨oc, od, .func (PySem.W.fnOf "__init__" "Book.__init__" (defArgs sBInit) (defBody sBInit) (defScope sBInit) (.ref dt) kV doc pm an cdv ct), osl⟩)
    (hcd : PySem.W.codeIn K cdv "Book.__init__" = true) (kp : PySem.W.keepIn K (.ref f) = true) (d : K.lookup dt = some ⟨dcl, ddx, .seq #[.int 20 tk] n, dsl⟩) :
    FunD K "__init__" "Book.__init__" (defArgs sBInit) (defBody sBInit) (defScope sBInit) [.int 20] [] f (PySem.W.fnOf "__init__" "Book.__init__" (defArgs sBInit) (defBody sBInit) (defScope sBInit) (.ref dt) kV doc pm an cdv ct) :=
  ⟨⟨oc, od, .ref dt, kV, doc, pm, an, cdv, ct, osl, rfl, lk, hcd, .inr ⟨by simp, dt, _, [.int 20 tk], n, rfl, d, rfl, .cons ⟨_, rfl⟩ .nil⟩, .inl rfl⟩, kp⟩
theorem bi_all {K : PySem.W.Frag} {f : Addr} {fd : FuncData} (F : FunD K "__init__" "Book.__init__" (defArgs sBInit) (defBody sBInit) (defScope sBInit) [.int 20] [] f fd) : Binds K fd ["self", "letters", "room"] [] := by
  obtain ⟨ds, v, b⟩ := F.binds1 (ps := ["self", "letters", "room"]) 3 1 (by simp) rfl fun T kV doc pm an cdv ct us its hu hi => match us, its, hu, hi with | [_, _, _], [_], _, _ => ⟨_, rfl, rfl⟩
  cases v
  exact b
theorem bi_dfl {K : PySem.W.Frag} {f : Addr} {fd : FuncData} (F : FunD K "__init__" "Book.__init__" (defArgs sBInit) (defBody sBInit) (defScope sBInit) [.int 20] [] f fd) : ∃ ds, Vals [V.int 20] ds ∧ Binds K fd ["self", "letters", "room"] ds :=
  F.binds1 (ps := ["self", "letters", "room"]) 2 0 (by simp) rfl fun T kV doc pm an cdv ct us its hu hi => match us, its, hu, hi with | [_, _], [_], _, _ => ⟨_, rfl, rfl⟩
end W8

set_option Elab.async false
set_option linter.all false
set_option maxRecDepth 100000
set_option maxHeartbeats 4000000
/-! the facts of a top read by one Hook: defs by their rows, tables by their keys, the rest as decidable facts -/
namespace HH
open PySem PySem.Spec PyProof.Rows L2
/-! ### what a lookup gave -/
def refOf : Option (Option Value) → Addr
  | some (some (.ref a)) => a
  | _ => 0
def tokV : Value → Tok
  | .int _ t => t
  | .str _ t => t
  | _ => 0
def tokOf : Option (Option Value) → Tok
  | some (some v) => tokV v
  | _ => 0
def hdOf : Option (List Value) → Addr
  | some (.ref a :: _) => a
  | _ => 0
def tlOf : Option (List Value) → List Value
  | some (_ :: r) => r
  | _ => []
def adOf : Value → Addr
  | .ref a => a
  | _ => 0
section
variable (K : PySem.W.Frag)
def ob (a : Addr) : Obj := (K.lookup a).getD default
def fdO (a : Addr) : FuncData := match (ob K a).data with
  | .func fd => fd
  | _ => default
def cdO (a : Addr) : ClassData := match (ob K a).data with
  | .cls cd => cd
  | _ => default
def fsO (a : Addr) : Array Value := match (ob K a).data with
  | .fields vs => vs
  | _ => #[]
def sqO (a : Addr) : Array Value := match (ob K a).data with
  | .seq vs _ => vs
  | _ => #[]
def sqN (a : Addr) : Nat := match (ob K a).data with
  | .seq _ n => n
  | _ => 0
def ccO (a : Addr) : Addr := match (fdO K a).closure with
  | (_, c) :: _ => c
  | _ => 0
end
/-! ### functions -/
def isNon : Value → Bool
  | .none => true
  | _ => false
theorem isNon_ok {v : Value} (h : isNon v = true) : v = .none := by
  cases v with
  | none => rfl
  | _ => cases h
/-- name, qualified name, parameters, body, scope, globals, closure names, no defaults, built-ins -/
abbrev FnN : Type := Option (Str × Str × Arguments × FuncBody × Scope × Addr × List Str × Bool × Addr)
def fnN (K : PySem.W.Frag) (a : Addr) : FnN := match K.lookup a with
  | some ⟨_, _, .func fd, _⟩ => some (fd.name, fd.qualname, fd.params, fd.body, fd.scope, fd.globals, fd.closure.map (·.1), isNon fd.defaults, fd.builtins)
  | _ => none
def rowN (n q : Str) (st : Stmt) (cl : List Str) (b : Bool) : FnN := some (n, q, defArgs st, .stmts (defBody st), defScope st, mainGlobals, cl, b, builtinsNs)
section
variable {K : PySem.W.Frag} {a : Addr} {n q : Str} {st : Stmt}
theorem fn_at {cl : List Str} {b : Bool} (e : fnN K a = rowN n q st cl b) : K.lookup a = some ⟨(ob K a).cls, (ob K a).dict, .func (fdO K a), (ob K a).slots⟩ ∧ (fdO K a).name = n ∧ (fdO K a).qualname = q ∧ (fdO K a).params = defArgs st ∧
    (fdO K a).body = .stmts (defBody st) ∧ (fdO K a).scope = defScope st ∧ (fdO K a).globals = mainGlobals ∧ (fdO K a).closure.map (·.1) = cl ∧ isNon (fdO K a).defaults = b ∧ (fdO K a).builtins = builtinsNs := by
  unfold fnN at e
  cases h : K.lookup a with
  | none =>
    rw [h] at e
    cases e
  | some o =>
    obtain ⟨oc, od, dt, sl⟩ := o
    rw [h] at e
    cases dt with
    | func fd =>
      have e2 : (some (fd.name, fd.qualname, fd.params, fd.body, fd.scope, fd.globals, fd.closure.map (·.1), isNon fd.defaults, fd.builtins) : FnN) = some (n, q, defArgs st, .stmts (defBody st), defScope st, mainGlobals, cl, b, builtinsNs) := e
      have eo : ob K a = ⟨oc, od, .func fd, sl⟩ := by
        unfold ob
        rw [h]
        rfl
      have ef : fdO K a = fd := by
        unfold fdO
        rw [eo]
      rw [ef, eo]
      simp only [Option.some.injEq, Prod.mk.injEq] at e2
      obtain ⟨h1, h2, h3, h4, h5, h6, h7, h8, h9⟩ := e2
      exact ⟨rfl, h1, h2, h3, h4, h5, h6, h7, h8, h9⟩
    | _ => cases e
theorem fn_l (e : fnN K a = rowN n q st [] true) : K.lookup a = some ⟨(ob K a).cls, (ob K a).dict, .func (PySem.W.fnOf n q (defArgs st) (defBody st) (defScope st) .none (fdO K a).kwdefaults (fdO K a).doc (fdO K a).pyModule (fdO K a).annotations (fdO K a).code (fdO K a).closureTuple), (ob K a).slots⟩ := by
  obtain ⟨h0, h1, h2, h3, h4, h5, h6, h7, h8, h9⟩ := fn_at e
  rw [h0]
  generalize fdO K a = fd at h1 h2 h3 h4 h5 h6 h7 h8 h9 ⊢
  obtain ⟨n1, n2, n3, n4, n5, n6, n7, n8, n9, n10, n11, n12, n13, n14, n15⟩ := fd
  dsimp only at h1 h2 h3 h4 h5 h6 h7 h8 h9
  have h10 := isNon_ok h8
  have h11 := List.map_eq_nil_iff.mp h7
  subst h1 h2 h3 h4 h5 h6 h9 h10 h11
  rfl
theorem fn_d (e : fnN K a = rowN n q st [] false) {dt : Addr} (d : (fdO K a).defaults = .ref dt) : K.lookup a = some ⟨(ob K a).cls, (ob K a).dict, .func (PySem.W.fnOf n q (defArgs st) (defBody st) (defScope st) (.ref dt) (fdO K a).kwdefaults (fdO K a).doc (fdO K a).pyModule (fdO K a).annotations (fdO K a).code (fdO K a).closureTuple), (ob K a).slots⟩ := by
  obtain ⟨h0, h1, h2, h3, h4, h5, h6, h7, h8, h9⟩ := fn_at e
  rw [h0]
  generalize fdO K a = fd at d h1 h2 h3 h4 h5 h6 h7 h8 h9 ⊢
  obtain ⟨n1, n2, n3, n4, n5, n6, n7, n8, n9, n10, n11, n12, n13, n14, n15⟩ := fd
  dsimp only at d h1 h2 h3 h4 h5 h6 h7 h8 h9
  have h11 := List.map_eq_nil_iff.mp h7
  subst h1 h2 h3 h4 h5 h6 h9 d h11
  rfl
theorem fn_x (e : fnN K a = rowN n q st ["__class__"] true) {cda : Addr} (kw : (fdO K a).kwdefaults = .none) (c : (fdO K a).code = .ref cda) : K.lookup a = some ⟨(ob K a).cls, (ob K a).dict, .func (PySem.W.ksFn n q (defArgs st) (defBody st) (defScope st) .none .none (fdO K a).doc (fdO K a).pyModule (fdO K a).annotations (.ref cda) (fdO K a).closureTuple (ccO K a)), (ob K a).slots⟩ := by
  obtain ⟨h0, h1, h2, h3, h4, h5, h6, h7, h8, h9⟩ := fn_at e
  have h12 : ccO K a = match (fdO K a).closure with
    | (_, c) :: _ => c
    | _ => 0 := rfl
  rw [h0, h12]
  generalize fdO K a = fd at kw c h1 h2 h3 h4 h5 h6 h7 h8 h9 ⊢
  obtain ⟨n1, n2, n3, n4, n5, n6, n7, n8, n9, n10, n11, n12, n13, n14, n15⟩ := fd
  dsimp only at kw c h1 h2 h3 h4 h5 h6 h7 h8 h9 ⊢
  have h10 := isNon_ok h8
  subst h1 h2 h3 h4 h5 h6 h9 h10 kw c
  cases n7 with
  | nil => cases h7
  | cons p r =>
    obtain ⟨x, cc⟩ := p
    have h13 : x :: r.map (·.1) = (["__class__"] : List Str) := h7
    injection h13 with h14 h15
    have h16 := List.map_eq_nil_iff.mp h15
    subst h14 h16
    rfl
end
/-! ### other objects -/
def isFs (K : PySem.W.Frag) (a : Addr) : Bool := match K.lookup a with
  | some ⟨_, _, .fields _, _⟩ => true
  | _ => false
def isSq (K : PySem.W.Frag) (a : Addr) : Bool := match K.lookup a with
  | some ⟨_, _, .seq _ _, _⟩ => true
  | _ => false
def isCell (K : PySem.W.Frag) (a E : Addr) : Bool := match K.lookup a with
  | some ⟨_, _, .cell (some v), _⟩ => decide (v = .ref E)
  | _ => false
/-- an exception class: of type, with a dict, no __del__, its mro begins with itself, made by ValueError's -/
def isXc (K : PySem.W.Frag) (E : Addr) (id : String) : Bool := match K.lookup E with
  | some ⟨t, _, .cls cd, sl⟩ => decide (t = .type "type") && (cd.hasDict && (!cd.hasDel && (decide (cd.mro.head? = some (.ref E)) && (decide (sl.size = 6) && decide (sl.toList[4]? = some (some (.builtin id)))))))
  | _ => false
section
variable {K : PySem.W.Frag} {a : Addr}
theorem fs_l (h : isFs K a = true) : K.lookup a = some ⟨(ob K a).cls, (ob K a).dict, .fields (fsO K a), (ob K a).slots⟩ := by
  unfold isFs at h
  cases q : K.lookup a with
  | none =>
    rw [q] at h
    cases h
  | some o =>
    obtain ⟨oc, od, dt, sl⟩ := o
    rw [q] at h
    have eo : ob K a = ⟨oc, od, dt, sl⟩ := by
      unfold ob
      rw [q]
      rfl
    unfold fsO
    rw [eo]
    cases dt with
    | fields vs => rfl
    | _ => cases h
theorem sq_l (h : isSq K a = true) : K.lookup a = some ⟨(ob K a).cls, (ob K a).dict, .seq (sqO K a) (sqN K a), (ob K a).slots⟩ := by
  unfold isSq at h
  cases q : K.lookup a with
  | none =>
    rw [q] at h
    cases h
  | some o =>
    obtain ⟨oc, od, dt, sl⟩ := o
    rw [q] at h
    have eo : ob K a = ⟨oc, od, dt, sl⟩ := by
      unfold ob
      rw [q]
      rfl
    unfold sqO sqN
    rw [eo]
    cases dt with
    | seq vs n => rfl
    | _ => cases h
theorem sq_e {L : Array Value} (h : isSq K a = true) (e : sqO K a = L) : K.lookup a = some ⟨(ob K a).cls, (ob K a).dict, .seq L (sqN K a), (ob K a).slots⟩ := by
  rw [← e]
  exact sq_l h
theorem cell_l {E : Addr} (h : isCell K a E = true) : K.lookup a = some ⟨(ob K a).cls, (ob K a).dict, .cell (some (.ref E)), (ob K a).slots⟩ := by
  unfold isCell at h
  cases q : K.lookup a with
  | none =>
    rw [q] at h
    cases h
  | some o =>
    obtain ⟨oc, od, dt, sl⟩ := o
    rw [q] at h
    have eo : ob K a = ⟨oc, od, dt, sl⟩ := by
      unfold ob
      rw [q]
      rfl
    rw [eo]
    cases dt with
    | cell v =>
      cases v with
      | none => cases h
      | some v =>
        have e : v = .ref E := of_decide_eq_true h
        rw [e]
    | _ => cases h
def k_ (K : PySem.W.Frag) (E : Addr) (i : Nat) : Option Value := ((ob K E).slots.toList[i]?).getD none
theorem six {α : Type} {l : List (Option α)} {v : Option α} (h : l.length = 6) (h4 : l[4]? = some v) : l = [(l[0]?).getD none, (l[1]?).getD none, (l[2]?).getD none, (l[3]?).getD none, v, (l[5]?).getD none] := by
  match l, h with
  | [a, b, c, d, e, f], _ =>
    have : e = v := Option.some.inj h4
    rw [this]
    rfl
theorem xc_l {E : Addr} {id : String} (h : isXc K E id = true) : K.lookup E = some (excClassObj (cdO K E).name (cdO K E).qualname E (cdO K E).ns (cdO K E).bases (cdO K E).mro.tail true (cdO K E).slotNames (cdO K E).subclasses (cdO K E).abstract (cdO K E).collection (ob K E).dict (k_ K E 0) (k_ K E 1) (k_ K E 2) (k_ K E 3) (k_ K E 5) id) := by
  unfold isXc at h
  cases q : K.lookup E with
  | none =>
    rw [q] at h
    cases h
  | some o =>
    obtain ⟨oc, od, dt, sl⟩ := o
    rw [q] at h
    have eo : ob K E = ⟨oc, od, dt, sl⟩ := by
      unfold ob
      rw [q]
      rfl
    unfold cdO k_
    rw [eo]
    cases dt with
    | cls cd =>
      obtain ⟨h1, h⟩ := He.ba h
      obtain ⟨h2, h⟩ := He.ba h
      obtain ⟨h3, h⟩ := He.ba h
      obtain ⟨h4, h⟩ := He.ba h
      obtain ⟨h5, h6⟩ := He.ba h
      have e1 : oc = .type "type" := of_decide_eq_true h1
      have e4 : cd.mro.head? = some (.ref E) := of_decide_eq_true h4
      have e5 : sl.size = 6 := of_decide_eq_true h5
      have e6 : sl.toList[4]? = some (some (.builtin id)) := of_decide_eq_true h6
      have es : sl = #[(sl.toList[0]?).getD none, (sl.toList[1]?).getD none, (sl.toList[2]?).getD none, (sl.toList[3]?).getD none, some (.builtin id), (sl.toList[5]?).getD none] :=
        Array.toList_inj.mp (six (by rw [Array.length_toList, e5]) e6)
      obtain ⟨n1, n2, n3, n4, n5, n6, n7, n8, n9, n10, n11⟩ := cd
      have e2 : n6 = true := h2
      have e3 : n11 = false := by
        cases n11 with
        | false => rfl
        | true => cases h3
      subst e1 e2 e3
      cases n3 with
      | nil => cases e4
      | cons c bm =>
        have e7 : c = .ref E := Option.some.inj e4
        subst e7
        show some (⟨_, _, _, sl⟩ : Obj) = _
        generalize sl.toList = L at es
        subst es
        rfl
    | _ => cases h
theorem ci_l {E : Addr} (h : (PySem.W.clsIn K E).isSome = true) : PySem.W.clsIn K E = some ((PySem.W.clsIn K E).getD default) := by
  cases q : PySem.W.clsIn K E with
  | none =>
    rw [q] at h
    cases h
  | some c => rfl
end
/-! ### the part of the heap that is looked at -/
def refsH (o : Obj) : List Addr := match o.data with
  | .seq its _ => its.toList.flatMap He.refV
  | .dict es _ => es.toList.flatMap fun e => He.refV e.val
  | .func fd => He.refV fd.code ++ (He.refV fd.defaults ++ (He.refV fd.kwdefaults ++ fd.closure.map (·.2)))
  | .cls cd => [cd.ns]
  | .fields vs => (match decide (o.cls = .type "code") with
    | true => []
    | false => vs.toList.flatMap He.refV)
  | _ => []
def forceL {α : Type} : List Addr → (List Addr → α) → α
  | [], k => k []
  | a :: r, k => HandSHeadRun.frNat a fun a => forceL r fun r => k (a :: r)
theorem forceL_eq {α : Type} : ∀ (l : List Addr) (k : List Addr → α), forceL l k = k l
  | [], _ => rfl
  | a :: r, k => by
    show (HandSHeadRun.frNat a fun a => forceL r fun r => k (a :: r)) = _
    rw [HandSHeadRun.frNat_eq, forceL_eq r]
def lvl (g : Addr → Option Obj) (as : List Addr) : List Addr := as.flatMap fun a => match g a with
  | some o => refsH o
  | none => []
def roots (g : Addr → Option Obj) (names : List Str) : List Addr := names.map fun x => refOf (PySem.W.nsIn (He.frG g [mainGlobals]) mainGlobals x)
abbrev AlH : Type := List FnN × List (Option (List (Option (Str × Int)))) × Bool
section
variable (fs : PySem.W.Frag → List Addr) (ts : List He.Tab) (ex : PySem.W.Frag → Bool)
def obsK (K : PySem.W.Frag) : AlH := ((fs K).map (fnN K), ts.map (fun t => He.dicW K (t.1 K)), ex K)
def obsH (names : List Str) (g : Addr → Option Obj) : AlH :=
  forceL (roots g names) fun l1 => forceL (lvl g l1) fun l2 => forceL (lvl g l2) fun l3 => forceL (lvl g l3) fun l4 => forceL (lvl g l4) fun l5 =>
    obsK fs ts ex (He.frG g (mainGlobals :: cStatics :: (l1 ++ (l2 ++ (l3 ++ (l4 ++ l5))))))
theorem obsH_ex (names : List Str) (g : Addr → Option Obj) : ∃ as, obsH fs ts ex names g = obsK fs ts ex (He.frG g as) := by
  unfold obsH
  rw [forceL_eq, forceL_eq, forceL_eq, forceL_eq, forceL_eq]
  exact ⟨_, rfl⟩
def valH (vs : List FnN) (w : World) : AlH := (vs, ts.map (fun t => some (He.keysIn w.params t.2)), true)
def hookH (names : List Str) (vs : List FnN) : PySem.W.Hook where
  α := AlH
  obs := fun s => obsH fs ts ex names s.heap.get?
  val := fun w => valH ts vs w
  says := fun w h => ∃ K : PySem.W.Frag, K.In h ∧ obsK fs ts ex K = valH ts vs w
  of := fun _ s e => by
    obtain ⟨as, h⟩ := obsH_ex fs ts ex names s.heap.get?
    exact ⟨_, He.frG_in, by rw [← h]; exact e⟩
  keeps := fun _ _ _ ⟨K, hK, c⟩ k => ⟨K, PySem.W.Frag.In.keeps hK k, c⟩
theorem obsH_eq {names : List Str} {vs : List FnN} {g : Addr → Option Obj} {s : Shared} (h : ∀ a, g a = s.heap.get? a) : obsH fs ts ex names g = (hookH fs ts ex names vs).obs s := by
  have e : g = s.heap.get? := funext h
  rw [e] <;> rfl
end
section
variable {fs : PySem.W.Frag → List Addr} {ts : List He.Tab} {ex : PySem.W.Frag → Bool} {vs : List FnN} {w : World} {K : PySem.W.Frag}
theorem says_fn (c : obsK fs ts ex K = valH ts vs w) (i : Nat) {a : Addr} {v : FnN} (ha : (fs K)[i]? = some a := by rfl) (hv : vs[i]? = some v := by rfl) : fnN K a = v := by
  have e : (fs K).map (fnN K) = vs := congrArg (fun z : AlH => z.1) c
  have e2 : ((fs K).map (fnN K))[i]? = vs[i]? := by rw [e]
  rw [List.getElem?_map, ha, hv] at e2
  exact Option.some.inj e2
theorem says_tab (c : obsK fs ts ex K = valH ts vs w) (i : Nat) {t : He.Tab} (h : ts[i]? = some t := by rfl) : ∃ es n, KDict K w (t.1 K) es n := by
  have e : ts.map (fun t => He.dicW K (t.1 K)) = ts.map fun t => some (He.keysIn w.params t.2) := congrArg (fun z : AlH => z.2.1) c
  have e2 : (ts.map fun t => He.dicW K (t.1 K))[i]? = (ts.map fun t => some (He.keysIn w.params t.2))[i]? := by rw [e]
  rw [List.getElem?_map, List.getElem?_map, h] at e2
  exact He.dicW_ok (Option.some.inj e2)
theorem says_ex (c : obsK fs ts ex K = valH ts vs w) : ex K = true := congrArg (fun z : AlH => z.2.2) c
end
/-- a law's end over such a head, with the script's bits -/
theorem walk_ofBE {l : PySem.W.OpenLaw} {n k : Nat} {q : Program} {loose : List Str} {XP : (Str → Option Value) → Heap → Prop} {YP : World → Heap → Prop} {d : DefRec} {CX : CXT} {x : Str}
    (hn : l.most = some n) (hn2 : n ≤ sizeLine) (hdf : d.params.defaults = []) (hr : Room k callerA)
    (F : ∀ (w : World) (mg : Str → Option Value) (fa : Addr) (h : Heap), YP w h → h.Ns mainGlobals mg → mg d.name = some (.ref fa) →
      ∃ (K : PySem.W.Frag) (fd : FuncData) (sp : Sp), K.In h ∧ (∀ (s : Shared) (u : Value), BindsTo s fd ⟨[u], []⟩ [(x, u)]) ∧
        (∀ (H : Hp) (a : Addr) (ns : List Int), ns.length ≤ n → (∀ z ∈ ns, Builtin.Int.intBits z ≤ 1048576) → Only H → SqL K H a (ns.map V.int) → sp [.ref a] H (fun v _ => v = .bl true) fun _ _ _ => False) ∧
        ∀ base : Heap, K.In base → base.Ns mainGlobals mg → FnOk l.prog w K mg base CX k fa fd [x] sp)
    (hCX : ∀ (H : Hp) (s : Shared) (e : Value) (s' : Shared), CX [] H s (fun _ _ _ => False) e s' → False) :
    PySem.W.WalkO q loose XP YP l.row.toRowW d [] (fun f vs => PySem.call f vs) := by
  refine Att.attach_callB hn hdf fun w s₀ s₁ mg mb fa o pm cd doc a vs ns G Y ho hd hcd hmg hobj hints hlen hbits hg => ?_
  obtain ⟨K, fd, sp, KX, hb, hsp, hF⟩ := F w mg fa _ Y G.T.g hmg
  exact law_call KX G.T.g G.T.b G.T.builtins G.T.nolimit hg hobj hints (Nat.le_trans hlen hn2) hr hF hb (fun H hO hS => hsp H a ns hlen hbits hO hS) fun H e s' => hCX H s₁ e s'
end HH

set_option Elab.async false
set_option linter.all false
set_option maxRecDepth 100000
set_option maxHeartbeats 4000000
set_option pp.maxSteps 60
namespace W8
open PySem PySem.Spec PyProof.Rows L2 L2E
def cAt (x : Addr) (es : List Addr) (i : Nat) : Addr := es.getD i x
theorem kit_ve {K : PySem.W.Frag} {D : Addr} (h : PySem.W.subIn K (.ref D) (.type "ValueError") = some true) : PySem.W.kitOne K (.ref D) (.type "ValueError") = some true := by
  unfold PySem.W.kitOne
  rw [if_neg (by intro z; cases (beq_iff_eq.mp z))]
  show (if PySem.W.kitMeta "ValueError" = true then PySem.W.subIn K (.ref D) (.type "ValueError") else none) = some true
  rw [if_pos (by decide +kernel)]
  exact h
theorem kit_ref {K : PySem.W.Frag} {D C : Addr} {b : Bool} (hd : PySem.W.hasDictIn K C = true) (ht : PySem.W.typeIn K (.ref C) = some (.type "type")) (h : PySem.W.subIn K (.ref D) (.ref C) = some b) (self : PySem.W.subIn K (.ref D) (.ref D) = some true) : PySem.W.kitOne K (.ref D) (.ref C) = some b := by
  unfold PySem.W.kitOne
  by_cases e : (Value.ref D == Value.ref C) = true
  · rw [if_pos e]
    have e2 : D = C := by simpa using e
    subst e2
    rw [self] at h
    exact h
  · rw [if_neg e]
    obtain ⟨cd, hc, _⟩ := PySem.W.any_some hd
    show (if ((PySem.W.clsIn K C).isSome && PySem.W.typeIn K (.ref C) == some (.type "type")) = true then PySem.W.subIn K (.ref D) (.ref C) else none) = some b
    rw [if_pos (by rw [hc, ht]; rfl)]
    exact h
theorem all_mk {l : PySem.W.OpenLaw} {w : World} {K : PySem.W.Frag} {h : Heap} {mg : Str → Option Value} (X : K.In h) (G : h.Ns mainGlobals mg)
    {t_ML t_SM t_MT t_MN t_MM t_SB t_DG u_P_MOST_ROWS : Tok}
    {E_1 E_2 E_3 E_4 E_5 E_6 E_7 E_8 E_9 E_10 E_11 E_12 E_13 E_14 E_15 E_16 E_17 E_18 E_19 : Addr}
    {nm_11 q_11 qu_11 ms_11 fi_11 : Str}
    {N_11 cc_11 cda_11 I_11 : Addr}
    {bs_11 bm_11 sub_11 : List Value}
    {sn_11 : List Str}
    {ab_11 : Bool}
    {col_11 : Option Bool}
    {dd_11 xd_11 xa_11 cdd_11 cld_11 : Option Addr}
    {k0_11 k1_11 k2_11 k3_11 k5_11 : Option Value}
    {xoc_11 xdoc_11 xpm_11 xct_11 ccl_11 cl_11 : Value}
    {j_11 : Nat}
    {p0_11 p1_11 p2_11 p3_11 p4_11 p5_11 q1_11 q2_11 q3_11 q4_11 r1_11 r2_11 : Pos}
    {tf_11 : Tok}
    {cdD_11 : ClassData}
    {xsl_11 ccs_11 csl_11 : Array (Option Value)}
    {vs_11 : Array Value}
    {nm_12 q_12 qu_12 ms_12 fi_12 : Str}
    {N_12 cc_12 cda_12 I_12 : Addr}
    {bs_12 bm_12 sub_12 : List Value}
    {sn_12 : List Str}
    {ab_12 : Bool}
    {col_12 : Option Bool}
    {dd_12 xd_12 xa_12 cdd_12 cld_12 : Option Addr}
    {k0_12 k1_12 k2_12 k3_12 k5_12 : Option Value}
    {xoc_12 xdoc_12 xpm_12 xct_12 ccl_12 cl_12 : Value}
    {j_12 : Nat}
    {p0_12 p1_12 p2_12 p3_12 p4_12 p5_12 q1_12 q2_12 q3_12 q4_12 r1_12 r2_12 : Pos}
    {tf_12 : Tok}
    {cdD_12 : ClassData}
    {xsl_12 ccs_12 csl_12 : Array (Option Value)}
    {vs_12 : Array Value}
    {nm_15 q_15 qu_15 ms_15 fi_15 : Str}
    {N_15 cc_15 cda_15 I_15 : Addr}
    {bs_15 bm_15 sub_15 : List Value}
    {sn_15 : List Str}
    {ab_15 : Bool}
    {col_15 : Option Bool}
    {dd_15 xd_15 xa_15 cdd_15 cld_15 : Option Addr}
    {k0_15 k1_15 k2_15 k3_15 k5_15 : Option Value}
    {xoc_15 xdoc_15 xpm_15 xct_15 ccl_15 cl_15 : Value}
    {j_15 : Nat}
    {p0_15 p1_15 p2_15 p3_15 p4_15 p5_15 q1_15 q2_15 q3_15 q4_15 r1_15 r2_15 : Pos}
    {tf_15 : Tok}
    {cdD_15 : ClassData}
    {xsl_15 ccs_15 csl_15 : Array (Option Value)}
    {vs_15 : Array Value}
    {nm_19 q_19 qu_19 ms_19 fi_19 : Str}
    {N_19 cc_19 cda_19 I_19 : Addr}
    {bs_19 bm_19 sub_19 : List Value}
    {sn_19 : List Str}
    {ab_19 : Bool}
    {col_19 : Option Bool}
    {dd_19 xd_19 xa_19 cdd_19 cld_19 : Option Addr}
    {k0_19 k1_19 k2_19 k3_19 k5_19 : Option Value}
    {xoc_19 xdoc_19 xpm_19 xct_19 ccl_19 cl_19 : Value}
    {j_19 : Nat}
    {p0_19 p1_19 p2_19 p3_19 p4_19 p5_19 q1_19 q2_19 q3_19 q4_19 r1_19 r2_19 : Pos}
    {tf_19 : Tok}
    {cdD_19 : ClassData}
    {xsl_19 ccs_19 csl_19 : Array (Option Value)}
    {vs_19 : Array Value}
    {D_B D_P f_bi dt_bi p_rm g_rm : Addr}
    {es_B es_P : Array DictEntry}
    {n_B n_P n_bi : Nat}
    {tb0 tb1 tb2 tb3 tb4 tp0 tp1 tp2 tp3 tk_bi : Tok}
    {oc_bi kV_bi dc_bi pm_bi cd_bi ct_bi dcl_bi oc_rm kV_rm dc_rm pm_rm cd_rm ct_rm : Value}
    {od_bi an_bi ddx_bi od_rm an_rm : Option Addr}
    {sl_bi dsl_bi sl_rm : Array (Option Value)}
    {rest_rm : List Value}
    {od_checkL an_checkL : Option Addr}
    {sl_checkL : Array (Option Value)}
    {oc_checkL kV_checkL dc_checkL pm_checkL cd_checkL ct_checkL : Value}
    {od_fits an_fits : Option Addr}
    {sl_fits : Array (Option Value)}
    {oc_fits kV_fits dc_fits pm_fits cd_fits ct_fits : Value}
    {od_pinit an_pinit : Option Addr}
    {sl_pinit : Array (Option Value)}
    {oc_pinit kV_pinit dc_pinit pm_pinit cd_pinit ct_pinit : Value}
    {od_rinit an_rinit : Option Addr}
    {sl_rinit : Array (Option Value)}
    {oc_rinit kV_rinit dc_rinit pm_rinit cd_rinit ct_rinit : Value}
    {od_put an_put : Option Addr}
    {sl_put : Array (Option Value)}
    {oc_put kV_put dc_put pm_put cd_put ct_put : Value}
    {od_comb an_comb : Option Addr}
    {sl_comb : Array (Option Value)}
    {oc_comb kV_comb dc_comb pm_comb cd_comb ct_comb : Value}
    {od_down an_down : Option Addr}
    {sl_down : Array (Option Value)}
    {oc_down kV_down dc_down pm_down cd_down ct_down : Value}
    {od_wait an_wait : Option Addr}
    {sl_wait : Array (Option Value)}
    {oc_wait kV_wait dc_wait pm_wait cd_wait ct_wait : Value}
    {od_beg an_beg : Option Addr}
    {sl_beg : Array (Option Value)}
    {oc_beg kV_beg dc_beg pm_beg cd_beg ct_beg : Value}
    {od_close an_close : Option Addr}
    {sl_close : Array (Option Value)}
    {oc_close kV_close dc_close pm_close cd_close ct_close : Value}
    {od_take an_take : Option Addr}
    {sl_take : Array (Option Value)}
    {oc_take kV_take dc_take pm_take cd_take ct_take : Value}
    {od_read an_read : Option Addr}
    {sl_read : Array (Option Value)}
    {oc_read kV_read dc_read pm_read cd_read ct_read : Value}
    {od_name an_name : Option Addr}
    {sl_name : Array (Option Value)}
    {oc_name kV_name dc_name pm_name cd_name ct_name : Value}
    {od_roomC an_roomC : Option Addr}
    {sl_roomC : Array (Option Value)}
    {oc_roomC kV_roomC dc_roomC pm_roomC cd_roomC ct_roomC : Value}
    {od_blen an_blen : Option Addr}
    {sl_blen : Array (Option Value)}
    {oc_blen kV_blen dc_blen pm_blen cd_blen ct_blen : Value}
    {od_biter an_biter : Option Addr}
    {sl_biter : Array (Option Value)}
    {oc_biter kV_biter dc_biter pm_biter cd_biter ct_biter : Value}
    {od_bin an_bin : Option Addr}
    {sl_bin : Array (Option Value)}
    {oc_bin kV_bin dc_bin pm_bin cd_bin ct_bin : Value}
    {od_bset an_bset : Option Addr}
    {sl_bset : Array (Option Value)}
    {oc_bset kV_bset dc_bset pm_bset cd_bset ct_bset : Value}
    {od_bdrop an_bdrop : Option Addr}
    {sl_bdrop : Array (Option Value)}
    {oc_bdrop kV_bdrop dc_bdrop pm_bdrop cd_bdrop ct_bdrop : Value}
    {od_bwr an_bwr : Option Addr}
    {sl_bwr : Array (Option Value)}
    {oc_bwr kV_bwr dc_bwr pm_bwr cd_bwr ct_bwr : Value}
    {od_merged an_merged : Option Addr}
    {sl_merged : Array (Option Value)}
    {oc_merged kV_merged dc_merged pm_merged cd_merged ct_merged : Value}
    {od_new an_new : Option Addr}
    {sl_new : Array (Option Value)}
    {oc_new kV_new dc_new pm_new cd_new ct_new : Value}
    {od_draw an_draw : Option Addr}
    {sl_draw : Array (Option Value)}
    {oc_draw kV_draw dc_draw pm_draw cd_draw ct_draw : Value}
    {od_same an_same : Option Addr}
    {sl_same : Array (Option Value)}
    {oc_same kV_same dc_same pm_same cd_same ct_same : Value}
    {od_letters an_letters : Option Addr}
    {sl_letters : Array (Option Value)}
    {oc_letters kV_letters dc_letters pm_letters cd_letters ct_letters : Value}
    {od_classes an_classes : Option Addr}
    {sl_classes : Array (Option Value)}
    {oc_classes kV_classes dc_classes pm_classes cd_classes ct_classes : Value}
    {od_book an_book : Option Addr}
    {sl_book : Array (Option Value)}
    {oc_book kV_book dc_book pm_book cd_book ct_book : Value}
    {od_lines an_lines : Option Addr}
    {sl_lines : Array (Option Value)}
    {oc_lines kV_lines dc_lines pm_lines cd_lines ct_lines : Value}
    {od_text an_text : Option Addr}
    {sl_text : Array (Option Value)}
    {oc_text kV_text dc_text pm_text cd_text ct_text : Value}
    {od_told an_told : Option Addr}
    {sl_told : Array (Option Value)}
    {oc_told kV_told dc_told pm_told cd_told ct_told : Value}
    {od_chg an_chg : Option Addr}
    {sl_chg : Array (Option Value)}
    {oc_chg kV_chg dc_chg pm_chg cd_chg ct_chg : Value}
    {od_due an_due : Option Addr}
    {sl_due : Array (Option Value)}
    {oc_due kV_due dc_due pm_due cd_due ct_due : Value}
    {od_lm an_lm : Option Addr}
    {sl_lm : Array (Option Value)}
    {oc_lm kV_lm dc_lm pm_lm cd_lm ct_lm : Value}
    {od_ord an_ord : Option Addr}
    {sl_ord : Array (Option Value)}
    {oc_ord kV_ord dc_ord pm_ord cd_ord ct_ord : Value}
    {od_is an_is : Option Addr}
    {sl_is : Array (Option Value)}
    {oc_is kV_is dc_is pm_is cd_is ct_is : Value}
    {od_mrs an_mrs : Option Addr}
    {sl_mrs : Array (Option Value)}
    {oc_mrs kV_mrs dc_mrs pm_mrs cd_mrs ct_mrs : Value}
    {od_lrg an_lrg : Option Addr}
    {sl_lrg : Array (Option Value)}
    {oc_lrg kV_lrg dc_lrg pm_lrg cd_lrg ct_lrg : Value}
    {od_agn an_agn : Option Addr}
    {sl_agn : Array (Option Value)}
    {oc_agn kV_agn dc_agn pm_agn cd_agn ct_agn : Value}
    {od_law an_law : Option Addr}
    {sl_law : Array (Option Value)}
    {oc_law kV_law dc_law pm_law cd_law ct_law : Value}
    {fa C_R C_P C_B f_checkL f_fits f_pinit f_rinit f_put f_comb f_down f_wait f_beg f_close f_take f_read f_name f_roomC f_blen f_biter f_bin f_bset f_bdrop f_bwr f_merged f_new f_draw f_same f_letters f_classes f_book f_lines f_text f_told f_chg f_due f_lm f_ord f_is f_mrs f_lrg f_agn f_law : Addr}
    (hfa : mg "law" = some (.ref fa))
    (aC_R : PySem.W.nsIn K mainGlobals "Reader" = some (some (.ref C_R)))
    (aC_P : PySem.W.nsIn K mainGlobals "Pattern" = some (some (.ref C_P)))
    (aC_B : PySem.W.nsIn K mainGlobals "Book" = some (some (.ref C_B)))
    (a_checkL : PySem.W.nsIn K mainGlobals "check_letters" = some (some (.ref f_checkL)))
    (l_checkL : K.lookup f_checkL = some ⟨oc_checkL, od_checkL, .func (PySem.W.fnOf "check_letters" "check_letters" (defArgs sCheckL) (defBody sCheckL) (defScope sCheckL) .none kV_checkL dc_checkL pm_checkL an_checkL cd_checkL ct_checkL), sl_checkL⟩)
    (c_checkL : PySem.W.codeIn K cd_checkL "check_letters" = true)
    (k_checkL : PySem.W.keepIn K (.ref f_checkL) = true)
    (a_fits : PySem.W.nsIn K mainGlobals "fits" = some (some (.ref f_fits)))
    (l_fits : K.lookup f_fits = some ⟨oc_fits, od_fits, .func (PySem.W.fnOf "fits" "fits" (defArgs sFits) (defBody sFits) (defScope sFits) .none kV_fits dc_fits pm_fits an_fits cd_fits ct_fits), sl_fits⟩)
    (c_fits : PySem.W.codeIn K cd_fits "fits" = true)
    (k_fits : PySem.W.keepIn K (.ref f_fits) = true)
    (a_pinit : PySem.W.findIn K (.ref C_P) "__init__" = some (some (.ref f_pinit)))
    (i_pinit : PySem.W.isFn K (.ref f_pinit) = true)
    (l_pinit : K.lookup f_pinit = some ⟨oc_pinit, od_pinit, .func (PySem.W.fnOf "__init__" "Pattern.__init__" (defArgs sPInit) (defBody sPInit) (defScope sPInit) .none kV_pinit dc_pinit pm_pinit an_pinit cd_pinit ct_pinit), sl_pinit⟩)
    (c_pinit : PySem.W.codeIn K cd_pinit "Pattern.__init__" = true)
    (k_pinit : PySem.W.keepIn K (.ref f_pinit) = true)
    (a_rinit : PySem.W.findIn K (.ref C_R) "__init__" = some (some (.ref f_rinit)))
    (i_rinit : PySem.W.isFn K (.ref f_rinit) = true)
    (l_rinit : K.lookup f_rinit = some ⟨oc_rinit, od_rinit, .func (PySem.W.fnOf "__init__" "Reader.__init__" (defArgs sRInit) (defBody sRInit) (defScope sRInit) .none kV_rinit dc_rinit pm_rinit an_rinit cd_rinit ct_rinit), sl_rinit⟩)
    (c_rinit : PySem.W.codeIn K cd_rinit "Reader.__init__" = true)
    (k_rinit : PySem.W.keepIn K (.ref f_rinit) = true)
    (a_put : PySem.W.findIn K (.ref C_R) "put" = some (some (.ref f_put)))
    (i_put : PySem.W.isFn K (.ref f_put) = true)
    (l_put : K.lookup f_put = some ⟨oc_put, od_put, .func (PySem.W.fnOf "put" "Reader.put" (defArgs sPut) (defBody sPut) (defScope sPut) .none kV_put dc_put pm_put an_put cd_put ct_put), sl_put⟩)
    (c_put : PySem.W.codeIn K cd_put "Reader.put" = true)
    (k_put : PySem.W.keepIn K (.ref f_put) = true)
    (a_comb : PySem.W.findIn K (.ref C_R) "combine" = some (some (.ref f_comb)))
    (i_comb : PySem.W.isFn K (.ref f_comb) = true)
    (l_comb : K.lookup f_comb = some ⟨oc_comb, od_comb, .func (PySem.W.fnOf "combine" "Reader.combine" (defArgs sCombine) (defBody sCombine) (defScope sCombine) .none kV_comb dc_comb pm_comb an_comb cd_comb ct_comb), sl_comb⟩)
    (c_comb : PySem.W.codeIn K cd_comb "Reader.combine" = true)
    (k_comb : PySem.W.keepIn K (.ref f_comb) = true)
    (a_down : PySem.W.findIn K (.ref C_R) "combine_down_to" = some (some (.ref f_down)))
    (i_down : PySem.W.isFn K (.ref f_down) = true)
    (l_down : K.lookup f_down = some ⟨oc_down, od_down, .func (PySem.W.fnOf "combine_down_to" "Reader.combine_down_to" (defArgs sDown) (defBody sDown) (defScope sDown) .none kV_down dc_down pm_down an_down cd_down ct_down), sl_down⟩)
    (c_down : PySem.W.codeIn K cd_down "Reader.combine_down_to" = true)
    (k_down : PySem.W.keepIn K (.ref f_down) = true)
    (a_wait : PySem.W.findIn K (.ref C_R) "wait" = some (some (.ref f_wait)))
    (i_wait : PySem.W.isFn K (.ref f_wait) = true)
    (l_wait : K.lookup f_wait = some ⟨oc_wait, od_wait, .func (PySem.W.fnOf "wait" "Reader.wait" (defArgs sWait) (defBody sWait) (defScope sWait) .none kV_wait dc_wait pm_wait an_wait cd_wait ct_wait), sl_wait⟩)
    (c_wait : PySem.W.codeIn K cd_wait "Reader.wait" = true)
    (k_wait : PySem.W.keepIn K (.ref f_wait) = true)
    (a_beg : PySem.W.findIn K (.ref C_R) "begin" = some (some (.ref f_beg)))
    (i_beg : PySem.W.isFn K (.ref f_beg) = true)
    (l_beg : K.lookup f_beg = some ⟨oc_beg, od_beg, .func (PySem.W.fnOf "begin" "Reader.begin" (defArgs sBegin) (defBody sBegin) (defScope sBegin) .none kV_beg dc_beg pm_beg an_beg cd_beg ct_beg), sl_beg⟩)
    (c_beg : PySem.W.codeIn K cd_beg "Reader.begin" = true)
    (k_beg : PySem.W.keepIn K (.ref f_beg) = true)
    (a_close : PySem.W.findIn K (.ref C_R) "close" = some (some (.ref f_close)))
    (i_close : PySem.W.isFn K (.ref f_close) = true)
    (l_close : K.lookup f_close = some ⟨oc_close, od_close, .func (PySem.W.fnOf "close" "Reader.close" (defArgs sClose) (defBody sClose) (defScope sClose) .none kV_close dc_close pm_close an_close cd_close ct_close), sl_close⟩)
    (c_close : PySem.W.codeIn K cd_close "Reader.close" = true)
    (k_close : PySem.W.keepIn K (.ref f_close) = true)
    (a_take : PySem.W.findIn K (.ref C_R) "take" = some (some (.ref f_take)))
    (i_take : PySem.W.isFn K (.ref f_take) = true)
    (l_take : K.lookup f_take = some ⟨oc_take, od_take, .func (PySem.W.fnOf "take" "Reader.take" (defArgs sTake) (defBody sTake) (defScope sTake) .none kV_take dc_take pm_take an_take cd_take ct_take), sl_take⟩)
    (c_take : PySem.W.codeIn K cd_take "Reader.take" = true)
    (k_take : PySem.W.keepIn K (.ref f_take) = true)
    (a_read : PySem.W.nsIn K mainGlobals "read_pattern" = some (some (.ref f_read)))
    (l_read : K.lookup f_read = some ⟨oc_read, od_read, .func (PySem.W.fnOf "read_pattern" "read_pattern" (defArgs sRead) (defBody sRead) (defScope sRead) .none kV_read dc_read pm_read an_read cd_read ct_read), sl_read⟩)
    (c_read : PySem.W.codeIn K cd_read "read_pattern" = true)
    (k_read : PySem.W.keepIn K (.ref f_read) = true)
    (a_name : PySem.W.nsIn K mainGlobals "check_name" = some (some (.ref f_name)))
    (l_name : K.lookup f_name = some ⟨oc_name, od_name, .func (PySem.W.fnOf "check_name" "check_name" (defArgs sName) (defBody sName) (defScope sName) .none kV_name dc_name pm_name an_name cd_name ct_name), sl_name⟩)
    (c_name : PySem.W.codeIn K cd_name "check_name" = true)
    (k_name : PySem.W.keepIn K (.ref f_name) = true)
    (a_roomC : PySem.W.nsIn K mainGlobals "check_room" = some (some (.ref f_roomC)))
    (l_roomC : K.lookup f_roomC = some ⟨oc_roomC, od_roomC, .func (PySem.W.fnOf "check_room" "check_room" (defArgs sRoomC) (defBody sRoomC) (defScope sRoomC) .none kV_roomC dc_roomC pm_roomC an_roomC cd_roomC ct_roomC), sl_roomC⟩)
    (c_roomC : PySem.W.codeIn K cd_roomC "check_room" = true)
    (k_roomC : PySem.W.keepIn K (.ref f_roomC) = true)
    (a_blen : PySem.W.findIn K (.ref C_B) "__len__" = some (some (.ref f_blen)))
    (i_blen : PySem.W.isFn K (.ref f_blen) = true)
    (l_blen : K.lookup f_blen = some ⟨oc_blen, od_blen, .func (PySem.W.fnOf "__len__" "Book.__len__" (defArgs sBLen) (defBody sBLen) (defScope sBLen) .none kV_blen dc_blen pm_blen an_blen cd_blen ct_blen), sl_blen⟩)
    (c_blen : PySem.W.codeIn K cd_blen "Book.__len__" = true)
    (k_blen : PySem.W.keepIn K (.ref f_blen) = true)
    (a_biter : PySem.W.findIn K (.ref C_B) "__iter__" = some (some (.ref f_biter)))
    (i_biter : PySem.W.isFn K (.ref f_biter) = true)
    (l_biter : K.lookup f_biter = some ⟨oc_biter, od_biter, .func (PySem.W.fnOf "__iter__" "Book.__iter__" (defArgs sBIter) (defBody sBIter) (defScope sBIter) .none kV_biter dc_biter pm_biter an_biter cd_biter ct_biter), sl_biter⟩)
    (c_biter : PySem.W.codeIn K cd_biter "Book.__iter__" = true)
    (k_biter : PySem.W.keepIn K (.ref f_biter) = true)
    (a_bin : PySem.W.findIn K (.ref C_B) "__contains__" = some (some (.ref f_bin)))
    (i_bin : PySem.W.isFn K (.ref f_bin) = true)
    (l_bin : K.lookup f_bin = some ⟨oc_bin, od_bin, .func (PySem.W.fnOf "__contains__" "Book.__contains__" (defArgs sBIn) (defBody sBIn) (defScope sBIn) .none kV_bin dc_bin pm_bin an_bin cd_bin ct_bin), sl_bin⟩)
    (c_bin : PySem.W.codeIn K cd_bin "Book.__contains__" = true)
    (k_bin : PySem.W.keepIn K (.ref f_bin) = true)
    (a_bset : PySem.W.findIn K (.ref C_B) "__setitem__" = some (some (.ref f_bset)))
    (i_bset : PySem.W.isFn K (.ref f_bset) = true)
    (l_bset : K.lookup f_bset = some ⟨oc_bset, od_bset, .func (PySem.W.fnOf "__setitem__" "Book.__setitem__" (defArgs sBSet) (defBody sBSet) (defScope sBSet) .none kV_bset dc_bset pm_bset an_bset cd_bset ct_bset), sl_bset⟩)
    (c_bset : PySem.W.codeIn K cd_bset "Book.__setitem__" = true)
    (k_bset : PySem.W.keepIn K (.ref f_bset) = true)
    (a_bdrop : PySem.W.findIn K (.ref C_B) "drop" = some (some (.ref f_bdrop)))
    (i_bdrop : PySem.W.isFn K (.ref f_bdrop) = true)
    (l_bdrop : K.lookup f_bdrop = some ⟨oc_bdrop, od_bdrop, .func (PySem.W.fnOf "drop" "Book.drop" (defArgs sBDrop) (defBody sBDrop) (defScope sBDrop) .none kV_bdrop dc_bdrop pm_bdrop an_bdrop cd_bdrop ct_bdrop), sl_bdrop⟩)
    (c_bdrop : PySem.W.codeIn K cd_bdrop "Book.drop" = true)
    (k_bdrop : PySem.W.keepIn K (.ref f_bdrop) = true)
    (a_bwr : PySem.W.findIn K (.ref C_B) "written" = some (some (.ref f_bwr)))
    (i_bwr : PySem.W.isFn K (.ref f_bwr) = true)
    (l_bwr : K.lookup f_bwr = some ⟨oc_bwr, od_bwr, .func (PySem.W.fnOf "written" "Book.written" (defArgs sBWritten) (defBody sBWritten) (defScope sBWritten) .none kV_bwr dc_bwr pm_bwr an_bwr cd_bwr ct_bwr), sl_bwr⟩)
    (c_bwr : PySem.W.codeIn K cd_bwr "Book.written" = true)
    (k_bwr : PySem.W.keepIn K (.ref f_bwr) = true)
    (a_merged : PySem.W.nsIn K mainGlobals "merged_books" = some (some (.ref f_merged)))
    (l_merged : K.lookup f_merged = some ⟨oc_merged, od_merged, .func (PySem.W.fnOf "merged_books" "merged_books" (defArgs sMerged) (defBody sMerged) (defScope sMerged) .none kV_merged dc_merged pm_merged an_merged cd_merged ct_merged), sl_merged⟩)
    (c_merged : PySem.W.codeIn K cd_merged "merged_books" = true)
    (k_merged : PySem.W.keepIn K (.ref f_merged) = true)
    (a_new : PySem.W.nsIn K mainGlobals "_law_new" = some (some (.ref f_new)))
    (l_new : K.lookup f_new = some ⟨oc_new, od_new, .func (PySem.W.fnOf "_law_new" "_law_new" (defArgs sNew) (defBody sNew) (defScope sNew) .none kV_new dc_new pm_new an_new cd_new ct_new), sl_new⟩)
    (c_new : PySem.W.codeIn K cd_new "_law_new" = true)
    (k_new : PySem.W.keepIn K (.ref f_new) = true)
    (a_draw : PySem.W.nsIn K mainGlobals "_law_draw" = some (some (.ref f_draw)))
    (l_draw : K.lookup f_draw = some ⟨oc_draw, od_draw, .func (PySem.W.fnOf "_law_draw" "_law_draw" (defArgs sDraw) (defBody sDraw) (defScope sDraw) .none kV_draw dc_draw pm_draw an_draw cd_draw ct_draw), sl_draw⟩)
    (c_draw : PySem.W.codeIn K cd_draw "_law_draw" = true)
    (k_draw : PySem.W.keepIn K (.ref f_draw) = true)
    (a_same : PySem.W.nsIn K mainGlobals "_law_same" = some (some (.ref f_same)))
    (l_same : K.lookup f_same = some ⟨oc_same, od_same, .func (PySem.W.fnOf "_law_same" "_law_same" (defArgs sSame) (defBody sSame) (defScope sSame) .none kV_same dc_same pm_same an_same cd_same ct_same), sl_same⟩)
    (c_same : PySem.W.codeIn K cd_same "_law_same" = true)
    (k_same : PySem.W.keepIn K (.ref f_same) = true)
    (a_letters : PySem.W.nsIn K mainGlobals "_law_letters" = some (some (.ref f_letters)))
    (l_letters : K.lookup f_letters = some ⟨oc_letters, od_letters, .func (PySem.W.fnOf "_law_letters" "_law_letters" (defArgs sLetters) (defBody sLetters) (defScope sLetters) .none kV_letters dc_letters pm_letters an_letters cd_letters ct_letters), sl_letters⟩)
    (c_letters : PySem.W.codeIn K cd_letters "_law_letters" = true)
    (k_letters : PySem.W.keepIn K (.ref f_letters) = true)
    (a_classes : PySem.W.nsIn K mainGlobals "_law_classes" = some (some (.ref f_classes)))
    (l_classes : K.lookup f_classes = some ⟨oc_classes, od_classes, .func (PySem.W.fnOf "_law_classes" "_law_classes" (defArgs sClasses) (defBody sClasses) (defScope sClasses) .none kV_classes dc_classes pm_classes an_classes cd_classes ct_classes), sl_classes⟩)
    (c_classes : PySem.W.codeIn K cd_classes "_law_classes" = true)
    (k_classes : PySem.W.keepIn K (.ref f_classes) = true)
    (a_book : PySem.W.nsIn K mainGlobals "_law_book" = some (some (.ref f_book)))
    (l_book : K.lookup f_book = some ⟨oc_book, od_book, .func (PySem.W.fnOf "_law_book" "_law_book" (defArgs sBook) (defBody sBook) (defScope sBook) .none kV_book dc_book pm_book an_book cd_book ct_book), sl_book⟩)
    (c_book : PySem.W.codeIn K cd_book "_law_book" = true)
    (k_book : PySem.W.keepIn K (.ref f_book) = true)
    (a_lines : PySem.W.nsIn K mainGlobals "_law_lines" = some (some (.ref f_lines)))
    (l_lines : K.lookup f_lines = some ⟨oc_lines, od_lines, .func (PySem.W.fnOf "_law_lines" "_law_lines" (defArgs sLines) (defBody sLines) (defScope sLines) .none kV_lines dc_lines pm_lines an_lines cd_lines ct_lines), sl_lines⟩)
    (c_lines : PySem.W.codeIn K cd_lines "_law_lines" = true)
    (k_lines : PySem.W.keepIn K (.ref f_lines) = true)
    (a_text : PySem.W.nsIn K mainGlobals "_law_text" = some (some (.ref f_text)))
    (l_text : K.lookup f_text = some ⟨oc_text, od_text, .func (PySem.W.fnOf "_law_text" "_law_text" (defArgs sText) (defBody sText) (defScope sText) .none kV_text dc_text pm_text an_text cd_text ct_text), sl_text⟩)
    (c_text : PySem.W.codeIn K cd_text "_law_text" = true)
    (k_text : PySem.W.keepIn K (.ref f_text) = true)
    (a_told : PySem.W.nsIn K mainGlobals "_law_told" = some (some (.ref f_told)))
    (l_told : K.lookup f_told = some ⟨oc_told, od_told, .func (PySem.W.fnOf "_law_told" "_law_told" (defArgs sTold) (defBody sTold) (defScope sTold) .none kV_told dc_told pm_told an_told cd_told ct_told), sl_told⟩)
    (c_told : PySem.W.codeIn K cd_told "_law_told" = true)
    (k_told : PySem.W.keepIn K (.ref f_told) = true)
    (a_chg : PySem.W.nsIn K mainGlobals "_law_changed" = some (some (.ref f_chg)))
    (l_chg : K.lookup f_chg = some ⟨oc_chg, od_chg, .func (PySem.W.fnOf "_law_changed" "_law_changed" (defArgs sChanged) (defBody sChanged) (defScope sChanged) .none kV_chg dc_chg pm_chg an_chg cd_chg ct_chg), sl_chg⟩)
    (c_chg : PySem.W.codeIn K cd_chg "_law_changed" = true)
    (k_chg : PySem.W.keepIn K (.ref f_chg) = true)
    (a_due : PySem.W.nsIn K mainGlobals "_law_due" = some (some (.ref f_due)))
    (l_due : K.lookup f_due = some ⟨oc_due, od_due, .func (PySem.W.fnOf "_law_due" "_law_due" (defArgs sDue) (defBody sDue) (defScope sDue) .none kV_due dc_due pm_due an_due cd_due ct_due), sl_due⟩)
    (c_due : PySem.W.codeIn K cd_due "_law_due" = true)
    (k_due : PySem.W.keepIn K (.ref f_due) = true)
    (a_lm : PySem.W.nsIn K mainGlobals "_law_merged" = some (some (.ref f_lm)))
    (l_lm : K.lookup f_lm = some ⟨oc_lm, od_lm, .func (PySem.W.fnOf "_law_merged" "_law_merged" (defArgs sLMerged) (defBody sLMerged) (defScope sLMerged) .none kV_lm dc_lm pm_lm an_lm cd_lm ct_lm), sl_lm⟩)
    (c_lm : PySem.W.codeIn K cd_lm "_law_merged" = true)
    (k_lm : PySem.W.keepIn K (.ref f_lm) = true)
    (a_ord : PySem.W.nsIn K mainGlobals "_law_ordered" = some (some (.ref f_ord)))
    (l_ord : K.lookup f_ord = some ⟨oc_ord, od_ord, .func (PySem.W.fnOf "_law_ordered" "_law_ordered" (defArgs sOrd) (defBody sOrd) (defScope sOrd) .none kV_ord dc_ord pm_ord an_ord cd_ord ct_ord), sl_ord⟩)
    (c_ord : PySem.W.codeIn K cd_ord "_law_ordered" = true)
    (k_ord : PySem.W.keepIn K (.ref f_ord) = true)
    (a_is : PySem.W.nsIn K mainGlobals "_law_is" = some (some (.ref f_is)))
    (l_is : K.lookup f_is = some ⟨oc_is, od_is, .func (PySem.W.fnOf "_law_is" "_law_is" (defArgs sIs) (defBody sIs) (defScope sIs) .none kV_is dc_is pm_is an_is cd_is ct_is), sl_is⟩)
    (c_is : PySem.W.codeIn K cd_is "_law_is" = true)
    (k_is : PySem.W.keepIn K (.ref f_is) = true)
    (a_mrs : PySem.W.nsIn K mainGlobals "_law_merges" = some (some (.ref f_mrs)))
    (l_mrs : K.lookup f_mrs = some ⟨oc_mrs, od_mrs, .func (PySem.W.fnOf "_law_merges" "_law_merges" (defArgs sMrs) (defBody sMrs) (defScope sMrs) .none kV_mrs dc_mrs pm_mrs an_mrs cd_mrs ct_mrs), sl_mrs⟩)
    (c_mrs : PySem.W.codeIn K cd_mrs "_law_merges" = true)
    (k_mrs : PySem.W.keepIn K (.ref f_mrs) = true)
    (a_lrg : PySem.W.nsIn K mainGlobals "_law_large" = some (some (.ref f_lrg)))
    (l_lrg : K.lookup f_lrg = some ⟨oc_lrg, od_lrg, .func (PySem.W.fnOf "_law_large" "_law_large" (defArgs sLrg) (defBody sLrg) (defScope sLrg) .none kV_lrg dc_lrg pm_lrg an_lrg cd_lrg ct_lrg), sl_lrg⟩)
    (c_lrg : PySem.W.codeIn K cd_lrg "_law_large" = true)
    (k_lrg : PySem.W.keepIn K (.ref f_lrg) = true)
    (a_agn : PySem.W.nsIn K mainGlobals "_law_again" = some (some (.ref f_agn)))
    (l_agn : K.lookup f_agn = some ⟨oc_agn, od_agn, .func (PySem.W.fnOf "_law_again" "_law_again" (defArgs sAgn) (defBody sAgn) (defScope sAgn) .none kV_agn dc_agn pm_agn an_agn cd_agn ct_agn), sl_agn⟩)
    (c_agn : PySem.W.codeIn K cd_agn "_law_again" = true)
    (k_agn : PySem.W.keepIn K (.ref f_agn) = true)
    (a_law : PySem.W.nsIn K mainGlobals "law" = some (some (.ref f_law)))
    (l_law : K.lookup f_law = some ⟨oc_law, od_law, .func (PySem.W.fnOf "law" "law" (defArgs sLaw) (defBody sLaw) (defScope sLaw) .none kV_law dc_law pm_law an_law cd_law ct_law), sl_law⟩)
    (c_law : PySem.W.codeIn K cd_law "law" = true)
    (k_law : PySem.W.keepIn K (.ref f_law) = true)
    (pg_R : PySem.W.plainGet K C_R Str.empty = true)
    (hd_R : PySem.W.hasDictIn K C_R = true)
    (po_R : PySem.W.plainOver K C_R = true)
    (sa_R : PySem.W.findIn K (.ref C_R) "__setattr__" = some (some (.builtin "object.__setattr__")))
    (mk_R : PySem.W.makesIn K C_R = true)
    (kc_R : PySem.W.keepIn K (.ref C_R) = true)
    (pg_P : PySem.W.plainGet K C_P Str.empty = true)
    (hd_P : PySem.W.hasDictIn K C_P = true)
    (po_P : PySem.W.plainOver K C_P = true)
    (sa_P : PySem.W.findIn K (.ref C_P) "__setattr__" = some (some (.builtin "object.__setattr__")))
    (mk_P : PySem.W.makesIn K C_P = true)
    (kc_P : PySem.W.keepIn K (.ref C_P) = true)
    (pg_B : PySem.W.plainGet K C_B Str.empty = true)
    (hd_B : PySem.W.hasDictIn K C_B = true)
    (po_B : PySem.W.plainOver K C_B = true)
    (sa_B : PySem.W.findIn K (.ref C_B) "__setattr__" = some (some (.builtin "object.__setattr__")))
    (mk_B : PySem.W.makesIn K C_B = true)
    (kc_B : PySem.W.keepIn K (.ref C_B) = true)
    (n_R_letters : PySem.W.findIn K (.ref C_R) "letters" = some none)
    (n_R_rows : PySem.W.findIn K (.ref C_R) "rows" = some none)
    (n_R_operands : PySem.W.findIn K (.ref C_R) "operands" = some none)
    (n_R_waiting : PySem.W.findIn K (.ref C_R) "waiting" = some none)
    (n_R_ready : PySem.W.findIn K (.ref C_R) "ready" = some none)
    (n_P_letters : PySem.W.findIn K (.ref C_P) "letters" = some none)
    (n_P_rows : PySem.W.findIn K (.ref C_P) "rows" = some none)
    (n_B_letters : PySem.W.findIn K (.ref C_B) "letters" = some none)
    (n_B_texts : PySem.W.findIn K (.ref C_B) "texts" = some none)
    (n_B_patterns : PySem.W.findIn K (.ref C_B) "patterns" = some none)
    (n_B_former_texts : PySem.W.findIn K (.ref C_B) "former_texts" = some none)
    (n_B_former_patterns : PySem.W.findIn K (.ref C_B) "former_patterns" = some none)
    (n_B__room : PySem.W.findIn K (.ref C_B) "_room" = some none)
    (g_ML : PySem.W.nsIn K mainGlobals "MOST_LETTERS" = some (some (.int 3 t_ML)))
    (g_SM : PySem.W.nsIn K mainGlobals "SMALL_words" = some (some (.str "abcdefghijklmnopqrstuvwxyz" t_SM)))
    (g_MT : PySem.W.nsIn K mainGlobals "MOST_TEXT" = some (some (.int 200 t_MT)))
    (g_MN : PySem.W.nsIn K mainGlobals "MOST_NAMES" = some (some (.int 100 t_MN)))
    (g_MM : PySem.W.nsIn K mainGlobals "MOST_NAME" = some (some (.int 12 t_MM)))
    (g_SB : PySem.W.nsIn K mainGlobals "SMALL_books" = some (some (.str "abcdefghijklmnopqrstuvwxyz" t_SB)))
    (g_DG : PySem.W.nsIn K mainGlobals "DIGITS" = some (some (.str "0123456789" t_DG)))
    (co_P_MOST_ROWS : PySem.W.findIn K (.ref C_P) "MOST_ROWS" = some (some (.int 16000 u_P_MOST_ROWS)))
    (cg_P_MOST_ROWS : PySem.W.specialIn K (.int 16000 u_P_MOST_ROWS) "__get__" = some none)
    (z_len : PySem.W.nsIn K mainGlobals "len" = some none)
    (z_int : PySem.W.nsIn K mainGlobals "int" = some none)
    (z_range : PySem.W.nsIn K mainGlobals "range" = some none)
    (z_tuple : PySem.W.nsIn K mainGlobals "tuple" = some none)
    (z_sorted : PySem.W.nsIn K mainGlobals "sorted" = some none)
    (z_enumerate : PySem.W.nsIn K mainGlobals "enumerate" = some none)
    (z_list : PySem.W.nsIn K mainGlobals "list" = some none)
    (z_isinstance : PySem.W.nsIn K mainGlobals "isinstance" = some none)
    (z_bool : PySem.W.nsIn K mainGlobals "bool" = some none)
    (z_str : PySem.W.nsIn K mainGlobals "str" = some none)
    (z_super : PySem.W.nsIn K mainGlobals "super" = some none)
    (z_ValueError : PySem.W.nsIn K mainGlobals "ValueError" = some none)
    (z_iter : PySem.W.nsIn K mainGlobals "iter" = some none)
    (aE_1 : PySem.W.nsIn K mainGlobals "ToolError" = some (some (.ref E_1)))
    (hdE_1 : PySem.W.hasDictIn K E_1 = true)
    (tyE_1 : PySem.W.typeIn K (.ref E_1) = some (.type "type"))
    (exE_1 : PySem.W.subIn K (.ref E_1) (.type "BaseException") = some true)
    (kpE_1 : PySem.W.keepIn K (.ref E_1) = true)
    (aE_2 : PySem.W.nsIn K mainGlobals "LettersError" = some (some (.ref E_2)))
    (hdE_2 : PySem.W.hasDictIn K E_2 = true)
    (tyE_2 : PySem.W.typeIn K (.ref E_2) = some (.type "type"))
    (exE_2 : PySem.W.subIn K (.ref E_2) (.type "BaseException") = some true)
    (kpE_2 : PySem.W.keepIn K (.ref E_2) = true)
    (aE_3 : PySem.W.nsIn K mainGlobals "MixedLetters" = some (some (.ref E_3)))
    (hdE_3 : PySem.W.hasDictIn K E_3 = true)
    (tyE_3 : PySem.W.typeIn K (.ref E_3) = some (.type "type"))
    (exE_3 : PySem.W.subIn K (.ref E_3) (.type "BaseException") = some true)
    (kpE_3 : PySem.W.keepIn K (.ref E_3) = true)
    (aE_4 : PySem.W.nsIn K mainGlobals "TableError" = some (some (.ref E_4)))
    (hdE_4 : PySem.W.hasDictIn K E_4 = true)
    (tyE_4 : PySem.W.typeIn K (.ref E_4) = some (.type "type"))
    (exE_4 : PySem.W.subIn K (.ref E_4) (.type "BaseException") = some true)
    (kpE_4 : PySem.W.keepIn K (.ref E_4) = true)
    (aE_5 : PySem.W.nsIn K mainGlobals "ActionError" = some (some (.ref E_5)))
    (hdE_5 : PySem.W.hasDictIn K E_5 = true)
    (tyE_5 : PySem.W.typeIn K (.ref E_5) = some (.type "type"))
    (exE_5 : PySem.W.subIn K (.ref E_5) (.type "BaseException") = some true)
    (kpE_5 : PySem.W.keepIn K (.ref E_5) = true)
    (aE_6 : PySem.W.nsIn K mainGlobals "LassoError" = some (some (.ref E_6)))
    (hdE_6 : PySem.W.hasDictIn K E_6 = true)
    (tyE_6 : PySem.W.typeIn K (.ref E_6) = some (.type "type"))
    (exE_6 : PySem.W.subIn K (.ref E_6) (.type "BaseException") = some true)
    (kpE_6 : PySem.W.keepIn K (.ref E_6) = true)
    (aE_7 : PySem.W.nsIn K mainGlobals "LetterError" = some (some (.ref E_7)))
    (hdE_7 : PySem.W.hasDictIn K E_7 = true)
    (tyE_7 : PySem.W.typeIn K (.ref E_7) = some (.type "type"))
    (exE_7 : PySem.W.subIn K (.ref E_7) (.type "BaseException") = some true)
    (kpE_7 : PySem.W.keepIn K (.ref E_7) = true)
    (aE_8 : PySem.W.nsIn K mainGlobals "StateError" = some (some (.ref E_8)))
    (hdE_8 : PySem.W.hasDictIn K E_8 = true)
    (tyE_8 : PySem.W.typeIn K (.ref E_8) = some (.type "type"))
    (exE_8 : PySem.W.subIn K (.ref E_8) (.type "BaseException") = some true)
    (kpE_8 : PySem.W.keepIn K (.ref E_8) = true)
    (aE_9 : PySem.W.nsIn K mainGlobals "RowError" = some (some (.ref E_9)))
    (hdE_9 : PySem.W.hasDictIn K E_9 = true)
    (tyE_9 : PySem.W.typeIn K (.ref E_9) = some (.type "type"))
    (exE_9 : PySem.W.subIn K (.ref E_9) (.type "BaseException") = some true)
    (kpE_9 : PySem.W.keepIn K (.ref E_9) = true)
    (aE_10 : PySem.W.nsIn K mainGlobals "NotStarFree" = some (some (.ref E_10)))
    (hdE_10 : PySem.W.hasDictIn K E_10 = true)
    (tyE_10 : PySem.W.typeIn K (.ref E_10) = some (.type "type"))
    (exE_10 : PySem.W.subIn K (.ref E_10) (.type "BaseException") = some true)
    (kpE_10 : PySem.W.keepIn K (.ref E_10) = true)
    (aE_11 : PySem.W.nsIn K mainGlobals "TextError" = some (some (.ref E_11)))
    (hdE_11 : PySem.W.hasDictIn K E_11 = true)
    (tyE_11 : PySem.W.typeIn K (.ref E_11) = some (.type "type"))
    (exE_11 : PySem.W.subIn K (.ref E_11) (.type "BaseException") = some true)
    (kpE_11 : PySem.W.keepIn K (.ref E_11) = true)
    (aE_12 : PySem.W.nsIn K mainGlobals "NameFault" = some (some (.ref E_12)))
    (hdE_12 : PySem.W.hasDictIn K E_12 = true)
    (tyE_12 : PySem.W.typeIn K (.ref E_12) = some (.type "type"))
    (exE_12 : PySem.W.subIn K (.ref E_12) (.type "BaseException") = some true)
    (kpE_12 : PySem.W.keepIn K (.ref E_12) = true)
    (aE_13 : PySem.W.nsIn K mainGlobals "LineError" = some (some (.ref E_13)))
    (hdE_13 : PySem.W.hasDictIn K E_13 = true)
    (tyE_13 : PySem.W.typeIn K (.ref E_13) = some (.type "type"))
    (exE_13 : PySem.W.subIn K (.ref E_13) (.type "BaseException") = some true)
    (kpE_13 : PySem.W.keepIn K (.ref E_13) = true)
    (aE_14 : PySem.W.nsIn K mainGlobals "CountsError" = some (some (.ref E_14)))
    (hdE_14 : PySem.W.hasDictIn K E_14 = true)
    (tyE_14 : PySem.W.typeIn K (.ref E_14) = some (.type "type"))
    (exE_14 : PySem.W.subIn K (.ref E_14) (.type "BaseException") = some true)
    (kpE_14 : PySem.W.keepIn K (.ref E_14) = true)
    (aE_15 : PySem.W.nsIn K mainGlobals "LimitError" = some (some (.ref E_15)))
    (hdE_15 : PySem.W.hasDictIn K E_15 = true)
    (tyE_15 : PySem.W.typeIn K (.ref E_15) = some (.type "type"))
    (exE_15 : PySem.W.subIn K (.ref E_15) (.type "BaseException") = some true)
    (kpE_15 : PySem.W.keepIn K (.ref E_15) = true)
    (aE_16 : PySem.W.nsIn K mainGlobals "TooManyStates" = some (some (.ref E_16)))
    (hdE_16 : PySem.W.hasDictIn K E_16 = true)
    (tyE_16 : PySem.W.typeIn K (.ref E_16) = some (.type "type"))
    (exE_16 : PySem.W.subIn K (.ref E_16) (.type "BaseException") = some true)
    (kpE_16 : PySem.W.keepIn K (.ref E_16) = true)
    (aE_17 : PySem.W.nsIn K mainGlobals "TooManyActions" = some (some (.ref E_17)))
    (hdE_17 : PySem.W.hasDictIn K E_17 = true)
    (tyE_17 : PySem.W.typeIn K (.ref E_17) = some (.type "type"))
    (exE_17 : PySem.W.subIn K (.ref E_17) (.type "BaseException") = some true)
    (kpE_17 : PySem.W.keepIn K (.ref E_17) = true)
    (aE_18 : PySem.W.nsIn K mainGlobals "TooManyRows" = some (some (.ref E_18)))
    (hdE_18 : PySem.W.hasDictIn K E_18 = true)
    (tyE_18 : PySem.W.typeIn K (.ref E_18) = some (.type "type"))
    (exE_18 : PySem.W.subIn K (.ref E_18) (.type "BaseException") = some true)
    (kpE_18 : PySem.W.keepIn K (.ref E_18) = true)
    (aE_19 : PySem.W.nsIn K mainGlobals "ClashError" = some (some (.ref E_19)))
    (hdE_19 : PySem.W.hasDictIn K E_19 = true)
    (tyE_19 : PySem.W.typeIn K (.ref E_19) = some (.type "type"))
    (exE_19 : PySem.W.subIn K (.ref E_19) (.type "BaseException") = some true)
    (kpE_19 : PySem.W.keepIn K (.ref E_19) = true)
    (s_3_1 : PySem.W.subIn K (.ref E_3) (.ref E_1) = some true)
    (s_3_2 : PySem.W.subIn K (.ref E_3) (.ref E_2) = some false)
    (s_3_3 : PySem.W.subIn K (.ref E_3) (.ref E_3) = some true)
    (s_3_4 : PySem.W.subIn K (.ref E_3) (.ref E_4) = some false)
    (s_3_5 : PySem.W.subIn K (.ref E_3) (.ref E_5) = some false)
    (s_3_6 : PySem.W.subIn K (.ref E_3) (.ref E_6) = some false)
    (s_3_7 : PySem.W.subIn K (.ref E_3) (.ref E_7) = some false)
    (s_3_8 : PySem.W.subIn K (.ref E_3) (.ref E_8) = some false)
    (s_3_9 : PySem.W.subIn K (.ref E_3) (.ref E_9) = some false)
    (s_3_10 : PySem.W.subIn K (.ref E_3) (.ref E_10) = some false)
    (s_3_11 : PySem.W.subIn K (.ref E_3) (.ref E_11) = some false)
    (s_3_12 : PySem.W.subIn K (.ref E_3) (.ref E_12) = some false)
    (s_3_13 : PySem.W.subIn K (.ref E_3) (.ref E_13) = some false)
    (s_3_14 : PySem.W.subIn K (.ref E_3) (.ref E_14) = some false)
    (s_3_15 : PySem.W.subIn K (.ref E_3) (.ref E_15) = some false)
    (s_3_16 : PySem.W.subIn K (.ref E_3) (.ref E_16) = some false)
    (s_3_17 : PySem.W.subIn K (.ref E_3) (.ref E_17) = some false)
    (s_3_18 : PySem.W.subIn K (.ref E_3) (.ref E_18) = some false)
    (s_3_19 : PySem.W.subIn K (.ref E_3) (.ref E_19) = some false)
    (sv_3 : PySem.W.subIn K (.ref E_3) (.type "ValueError") = some true)
    (ga_3 : PySem.W.findIn K (.ref E_3) "__getattribute__" = some (some (.builtin "BaseException.__getattribute__")))
    (gg_3 : PySem.W.findIn K (.ref E_3) "__getattr__" = some none)
    (gc_3 : PySem.W.findIn K (.ref E_3) "__class__" = some (some (.builtin "object.__class__")))
    (mo_3 : PySem.W.mroIn K E_3 (.type "object") = some true)
    (s_11_1 : PySem.W.subIn K (.ref E_11) (.ref E_1) = some true)
    (s_11_2 : PySem.W.subIn K (.ref E_11) (.ref E_2) = some false)
    (s_11_3 : PySem.W.subIn K (.ref E_11) (.ref E_3) = some false)
    (s_11_4 : PySem.W.subIn K (.ref E_11) (.ref E_4) = some false)
    (s_11_5 : PySem.W.subIn K (.ref E_11) (.ref E_5) = some false)
    (s_11_6 : PySem.W.subIn K (.ref E_11) (.ref E_6) = some false)
    (s_11_7 : PySem.W.subIn K (.ref E_11) (.ref E_7) = some false)
    (s_11_8 : PySem.W.subIn K (.ref E_11) (.ref E_8) = some false)
    (s_11_9 : PySem.W.subIn K (.ref E_11) (.ref E_9) = some false)
    (s_11_10 : PySem.W.subIn K (.ref E_11) (.ref E_10) = some false)
    (s_11_11 : PySem.W.subIn K (.ref E_11) (.ref E_11) = some true)
    (s_11_12 : PySem.W.subIn K (.ref E_11) (.ref E_12) = some false)
    (s_11_13 : PySem.W.subIn K (.ref E_11) (.ref E_13) = some false)
    (s_11_14 : PySem.W.subIn K (.ref E_11) (.ref E_14) = some false)
    (s_11_15 : PySem.W.subIn K (.ref E_11) (.ref E_15) = some false)
    (s_11_16 : PySem.W.subIn K (.ref E_11) (.ref E_16) = some false)
    (s_11_17 : PySem.W.subIn K (.ref E_11) (.ref E_17) = some false)
    (s_11_18 : PySem.W.subIn K (.ref E_11) (.ref E_18) = some false)
    (s_11_19 : PySem.W.subIn K (.ref E_11) (.ref E_19) = some false)
    (sv_11 : PySem.W.subIn K (.ref E_11) (.type "ValueError") = some true)
    (ga_11 : PySem.W.findIn K (.ref E_11) "__getattribute__" = some (some (.builtin "BaseException.__getattribute__")))
    (gg_11 : PySem.W.findIn K (.ref E_11) "__getattr__" = some none)
    (gc_11 : PySem.W.findIn K (.ref E_11) "__class__" = some (some (.builtin "object.__class__")))
    (mo_11 : PySem.W.mroIn K E_11 (.type "object") = some true)
    (s_12_1 : PySem.W.subIn K (.ref E_12) (.ref E_1) = some true)
    (s_12_2 : PySem.W.subIn K (.ref E_12) (.ref E_2) = some false)
    (s_12_3 : PySem.W.subIn K (.ref E_12) (.ref E_3) = some false)
    (s_12_4 : PySem.W.subIn K (.ref E_12) (.ref E_4) = some false)
    (s_12_5 : PySem.W.subIn K (.ref E_12) (.ref E_5) = some false)
    (s_12_6 : PySem.W.subIn K (.ref E_12) (.ref E_6) = some false)
    (s_12_7 : PySem.W.subIn K (.ref E_12) (.ref E_7) = some false)
    (s_12_8 : PySem.W.subIn K (.ref E_12) (.ref E_8) = some false)
    (s_12_9 : PySem.W.subIn K (.ref E_12) (.ref E_9) = some false)
    (s_12_10 : PySem.W.subIn K (.ref E_12) (.ref E_10) = some false)
    (s_12_11 : PySem.W.subIn K (.ref E_12) (.ref E_11) = some false)
    (s_12_12 : PySem.W.subIn K (.ref E_12) (.ref E_12) = some true)
    (s_12_13 : PySem.W.subIn K (.ref E_12) (.ref E_13) = some false)
    (s_12_14 : PySem.W.subIn K (.ref E_12) (.ref E_14) = some false)
    (s_12_15 : PySem.W.subIn K (.ref E_12) (.ref E_15) = some false)
    (s_12_16 : PySem.W.subIn K (.ref E_12) (.ref E_16) = some false)
    (s_12_17 : PySem.W.subIn K (.ref E_12) (.ref E_17) = some false)
    (s_12_18 : PySem.W.subIn K (.ref E_12) (.ref E_18) = some false)
    (s_12_19 : PySem.W.subIn K (.ref E_12) (.ref E_19) = some false)
    (sv_12 : PySem.W.subIn K (.ref E_12) (.type "ValueError") = some true)
    (ga_12 : PySem.W.findIn K (.ref E_12) "__getattribute__" = some (some (.builtin "BaseException.__getattribute__")))
    (gg_12 : PySem.W.findIn K (.ref E_12) "__getattr__" = some none)
    (gc_12 : PySem.W.findIn K (.ref E_12) "__class__" = some (some (.builtin "object.__class__")))
    (mo_12 : PySem.W.mroIn K E_12 (.type "object") = some true)
    (s_15_1 : PySem.W.subIn K (.ref E_15) (.ref E_1) = some true)
    (s_15_2 : PySem.W.subIn K (.ref E_15) (.ref E_2) = some false)
    (s_15_3 : PySem.W.subIn K (.ref E_15) (.ref E_3) = some false)
    (s_15_4 : PySem.W.subIn K (.ref E_15) (.ref E_4) = some false)
    (s_15_5 : PySem.W.subIn K (.ref E_15) (.ref E_5) = some false)
    (s_15_6 : PySem.W.subIn K (.ref E_15) (.ref E_6) = some false)
    (s_15_7 : PySem.W.subIn K (.ref E_15) (.ref E_7) = some false)
    (s_15_8 : PySem.W.subIn K (.ref E_15) (.ref E_8) = some false)
    (s_15_9 : PySem.W.subIn K (.ref E_15) (.ref E_9) = some false)
    (s_15_10 : PySem.W.subIn K (.ref E_15) (.ref E_10) = some false)
    (s_15_11 : PySem.W.subIn K (.ref E_15) (.ref E_11) = some false)
    (s_15_12 : PySem.W.subIn K (.ref E_15) (.ref E_12) = some false)
    (s_15_13 : PySem.W.subIn K (.ref E_15) (.ref E_13) = some false)
    (s_15_14 : PySem.W.subIn K (.ref E_15) (.ref E_14) = some false)
    (s_15_15 : PySem.W.subIn K (.ref E_15) (.ref E_15) = some true)
    (s_15_16 : PySem.W.subIn K (.ref E_15) (.ref E_16) = some false)
    (s_15_17 : PySem.W.subIn K (.ref E_15) (.ref E_17) = some false)
    (s_15_18 : PySem.W.subIn K (.ref E_15) (.ref E_18) = some false)
    (s_15_19 : PySem.W.subIn K (.ref E_15) (.ref E_19) = some false)
    (sv_15 : PySem.W.subIn K (.ref E_15) (.type "ValueError") = some true)
    (ga_15 : PySem.W.findIn K (.ref E_15) "__getattribute__" = some (some (.builtin "BaseException.__getattribute__")))
    (gg_15 : PySem.W.findIn K (.ref E_15) "__getattr__" = some none)
    (gc_15 : PySem.W.findIn K (.ref E_15) "__class__" = some (some (.builtin "object.__class__")))
    (mo_15 : PySem.W.mroIn K E_15 (.type "object") = some true)
    (s_19_1 : PySem.W.subIn K (.ref E_19) (.ref E_1) = some true)
    (s_19_2 : PySem.W.subIn K (.ref E_19) (.ref E_2) = some false)
    (s_19_3 : PySem.W.subIn K (.ref E_19) (.ref E_3) = some false)
    (s_19_4 : PySem.W.subIn K (.ref E_19) (.ref E_4) = some false)
    (s_19_5 : PySem.W.subIn K (.ref E_19) (.ref E_5) = some false)
    (s_19_6 : PySem.W.subIn K (.ref E_19) (.ref E_6) = some false)
    (s_19_7 : PySem.W.subIn K (.ref E_19) (.ref E_7) = some false)
    (s_19_8 : PySem.W.subIn K (.ref E_19) (.ref E_8) = some false)
    (s_19_9 : PySem.W.subIn K (.ref E_19) (.ref E_9) = some false)
    (s_19_10 : PySem.W.subIn K (.ref E_19) (.ref E_10) = some false)
    (s_19_11 : PySem.W.subIn K (.ref E_19) (.ref E_11) = some false)
    (s_19_12 : PySem.W.subIn K (.ref E_19) (.ref E_12) = some false)
    (s_19_13 : PySem.W.subIn K (.ref E_19) (.ref E_13) = some false)
    (s_19_14 : PySem.W.subIn K (.ref E_19) (.ref E_14) = some false)
    (s_19_15 : PySem.W.subIn K (.ref E_19) (.ref E_15) = some false)
    (s_19_16 : PySem.W.subIn K (.ref E_19) (.ref E_16) = some false)
    (s_19_17 : PySem.W.subIn K (.ref E_19) (.ref E_17) = some false)
    (s_19_18 : PySem.W.subIn K (.ref E_19) (.ref E_18) = some false)
    (s_19_19 : PySem.W.subIn K (.ref E_19) (.ref E_19) = some true)
    (sv_19 : PySem.W.subIn K (.ref E_19) (.type "ValueError") = some true)
    (ga_19 : PySem.W.findIn K (.ref E_19) "__getattribute__" = some (some (.builtin "BaseException.__getattribute__")))
    (gg_19 : PySem.W.findIn K (.ref E_19) "__getattr__" = some none)
    (gc_19 : PySem.W.findIn K (.ref E_19) "__class__" = some (some (.builtin "object.__class__")))
    (mo_19 : PySem.W.mroIn K E_19 (.type "object") = some true)
    (gsC : PySem.W.specialIn K (.builtin "object.__class__") "__get__" = some (some (.builtin "getset_descriptor.__get__")))
    (tkC : PySem.W.takesIn K (.builtin "object.__class__") = some true)
    (xL_11 : K.lookup E_11 = some (excClassObj nm_11 q_11 E_11 N_11 bs_11 bm_11 true sn_11 sub_11 ab_11 col_11 dd_11 k0_11 k1_11 k2_11 k3_11 k5_11 "ValueError.__new__"))
    (rv_11 : HandSPX.refsVE bm_11 = true)
    (xsa_11 : PySem.W.findIn K (.ref E_11) "__setattr__" = some (some (.builtin "object.__setattr__")))
    (xno_11 : PySem.W.findIn K (.ref E_11) "index" = some none)
    (xi_11 : PySem.W.findIn K (.ref E_11) "__init__" = some (some (.ref I_11)))
    (xt_11 : PySem.W.typeIn K (.ref I_11) = some (.type "function"))
    (xl_11 : K.lookup I_11 = some ⟨xoc_11, xd_11, .func (PySem.W.ksFn "__init__" qu_11 (PySem.XM.xA "index" r1_11 r2_11) (PySem.XM.xB "index" ms_11 j_11 p0_11 p1_11 p2_11 p3_11 p4_11 p5_11 q1_11 q2_11 q3_11 q4_11) (PySem.XM.xS "index") .none .none xdoc_11 xpm_11 xa_11 (.ref cda_11) xct_11 cc_11), xsl_11⟩)
    (xco_11 : PySem.W.codeIn K (.ref cda_11) qu_11 = true)
    (xpe_11 : (p2_11.endLine == p4_11.line) = true)
    (xcd_11 : K.lookup cda_11 = some ⟨ccl_11, cdd_11, .fields vs_11, ccs_11⟩)
    (xv2_11 : vs_11[2]? = some (.str fi_11 tf_11))
    (xfi_11 : ((l.prog.main.file : Str) == fi_11) = true)
    (xce_11 : K.lookup cc_11 = some ⟨cl_11, cld_11, .cell (some (.ref E_11)), csl_11⟩)
    (xci_11 : PySem.W.clsIn K E_11 = some cdD_11)
    (xmr_11 : PySem.W.mroIn K E_11 (.ref E_11) = some true)
    (xsu_11 : PySem.W.ks_superIn K E_11 E_11 "__init__" = some (some (.builtin "ValueError.__init__")))
    (xL_12 : K.lookup E_12 = some (excClassObj nm_12 q_12 E_12 N_12 bs_12 bm_12 true sn_12 sub_12 ab_12 col_12 dd_12 k0_12 k1_12 k2_12 k3_12 k5_12 "ValueError.__new__"))
    (rv_12 : HandSPX.refsVE bm_12 = true)
    (xsa_12 : PySem.W.findIn K (.ref E_12) "__setattr__" = some (some (.builtin "object.__setattr__")))
    (xno_12 : PySem.W.findIn K (.ref E_12) "name" = some none)
    (xi_12 : PySem.W.findIn K (.ref E_12) "__init__" = some (some (.ref I_12)))
    (xt_12 : PySem.W.typeIn K (.ref I_12) = some (.type "function"))
    (xl_12 : K.lookup I_12 = some ⟨xoc_12, xd_12, .func (PySem.W.ksFn "__init__" qu_12 (PySem.XM.xA "name" r1_12 r2_12) (PySem.XM.xB "name" ms_12 j_12 p0_12 p1_12 p2_12 p3_12 p4_12 p5_12 q1_12 q2_12 q3_12 q4_12) (PySem.XM.xS "name") .none .none xdoc_12 xpm_12 xa_12 (.ref cda_12) xct_12 cc_12), xsl_12⟩)
    (xco_12 : PySem.W.codeIn K (.ref cda_12) qu_12 = true)
    (xpe_12 : (p2_12.endLine == p4_12.line) = true)
    (xcd_12 : K.lookup cda_12 = some ⟨ccl_12, cdd_12, .fields vs_12, ccs_12⟩)
    (xv2_12 : vs_12[2]? = some (.str fi_12 tf_12))
    (xfi_12 : ((l.prog.main.file : Str) == fi_12) = true)
    (xce_12 : K.lookup cc_12 = some ⟨cl_12, cld_12, .cell (some (.ref E_12)), csl_12⟩)
    (xci_12 : PySem.W.clsIn K E_12 = some cdD_12)
    (xmr_12 : PySem.W.mroIn K E_12 (.ref E_12) = some true)
    (xsu_12 : PySem.W.ks_superIn K E_12 E_12 "__init__" = some (some (.builtin "ValueError.__init__")))
    (xL_15 : K.lookup E_15 = some (excClassObj nm_15 q_15 E_15 N_15 bs_15 bm_15 true sn_15 sub_15 ab_15 col_15 dd_15 k0_15 k1_15 k2_15 k3_15 k5_15 "ValueError.__new__"))
    (rv_15 : HandSPX.refsVE bm_15 = true)
    (xsa_15 : PySem.W.findIn K (.ref E_15) "__setattr__" = some (some (.builtin "object.__setattr__")))
    (xno_15 : PySem.W.findIn K (.ref E_15) "limit" = some none)
    (xi_15 : PySem.W.findIn K (.ref E_15) "__init__" = some (some (.ref I_15)))
    (xt_15 : PySem.W.typeIn K (.ref I_15) = some (.type "function"))
    (xl_15 : K.lookup I_15 = some ⟨xoc_15, xd_15, .func (PySem.W.ksFn "__init__" qu_15 (PySem.XM.xA "limit" r1_15 r2_15) (PySem.XM.xB "limit" ms_15 j_15 p0_15 p1_15 p2_15 p3_15 p4_15 p5_15 q1_15 q2_15 q3_15 q4_15) (PySem.XM.xS "limit") .none .none xdoc_15 xpm_15 xa_15 (.ref cda_15) xct_15 cc_15), xsl_15⟩)
    (xco_15 : PySem.W.codeIn K (.ref cda_15) qu_15 = true)
    (xpe_15 : (p2_15.endLine == p4_15.line) = true)
    (xcd_15 : K.lookup cda_15 = some ⟨ccl_15, cdd_15, .fields vs_15, ccs_15⟩)
    (xv2_15 : vs_15[2]? = some (.str fi_15 tf_15))
    (xfi_15 : ((l.prog.main.file : Str) == fi_15) = true)
    (xce_15 : K.lookup cc_15 = some ⟨cl_15, cld_15, .cell (some (.ref E_15)), csl_15⟩)
    (xci_15 : PySem.W.clsIn K E_15 = some cdD_15)
    (xmr_15 : PySem.W.mroIn K E_15 (.ref E_15) = some true)
    (xsu_15 : PySem.W.ks_superIn K E_15 E_15 "__init__" = some (some (.builtin "ValueError.__init__")))
    (xL_19 : K.lookup E_19 = some (excClassObj nm_19 q_19 E_19 N_19 bs_19 bm_19 true sn_19 sub_19 ab_19 col_19 dd_19 k0_19 k1_19 k2_19 k3_19 k5_19 "ValueError.__new__"))
    (rv_19 : HandSPX.refsVE bm_19 = true)
    (xsa_19 : PySem.W.findIn K (.ref E_19) "__setattr__" = some (some (.builtin "object.__setattr__")))
    (xno_19 : PySem.W.findIn K (.ref E_19) "names" = some none)
    (xi_19 : PySem.W.findIn K (.ref E_19) "__init__" = some (some (.ref I_19)))
    (xt_19 : PySem.W.typeIn K (.ref I_19) = some (.type "function"))
    (xl_19 : K.lookup I_19 = some ⟨xoc_19, xd_19, .func (PySem.W.ksFn "__init__" qu_19 (PySem.XM.xA "names" r1_19 r2_19) (PySem.XM.xB "names" ms_19 j_19 p0_19 p1_19 p2_19 p3_19 p4_19 p5_19 q1_19 q2_19 q3_19 q4_19) (PySem.XM.xS "names") .none .none xdoc_19 xpm_19 xa_19 (.ref cda_19) xct_19 cc_19), xsl_19⟩)
    (xco_19 : PySem.W.codeIn K (.ref cda_19) qu_19 = true)
    (xpe_19 : (p2_19.endLine == p4_19.line) = true)
    (xcd_19 : K.lookup cda_19 = some ⟨ccl_19, cdd_19, .fields vs_19, ccs_19⟩)
    (xv2_19 : vs_19[2]? = some (.str fi_19 tf_19))
    (xfi_19 : ((l.prog.main.file : Str) == fi_19) = true)
    (xce_19 : K.lookup cc_19 = some ⟨cl_19, cld_19, .cell (some (.ref E_19)), csl_19⟩)
    (xci_19 : PySem.W.clsIn K E_19 = some cdD_19)
    (xmr_19 : PySem.W.mroIn K E_19 (.ref E_19) = some true)
    (xsu_19 : PySem.W.ks_superIn K E_19 E_19 "__init__" = some (some (.builtin "ValueError.__init__")))
    (xthi : PySem.W.nsIn K cStatics "thirdparty.any" = some none)
    (xtop : (l.prog.main.scope.names.lookup ("super" : Str)).isSome = false)
    (xq_3 : PySem.W.excIn K E_3 [.type "ValueError", .type "Exception", .type "BaseException", .type "object"] "ValueError.__new__" = true)
    (aD_B : PySem.W.nsIn K mainGlobals "BINDING" = some (some (.ref D_B)))
    (aD_P : PySem.W.nsIn K mainGlobals "PARTS" = some (some (.ref D_P)))
    (lD_B : K.lookup D_B = some ⟨.type "dict", none, .dict es_B n_B, #[]⟩)
    (lD_P : K.lookup D_P = some ⟨.type "dict", none, .dict es_P n_P, #[]⟩)
    (kD_B : PySem.W.KeysLit w.params es_B.toList)
    (kD_P : PySem.W.KeysLit w.params es_P.toList)
    (loD_P : (D_P == sysModules) = false)
    (hB0 : PySem.W.nsIn K D_B "(" = some (some (.int 0 tb0)))
    (hB1 : PySem.W.nsIn K D_B "|" = some (some (.int 1 tb1)))
    (hB2 : PySem.W.nsIn K D_B "&" = some (some (.int 2 tb2)))
    (hB3 : PySem.W.nsIn K D_B "+" = some (some (.int 3 tb3)))
    (hB4 : PySem.W.nsIn K D_B "~" = some (some (.int 4 tb4)))
    (hP0 : PySem.W.nsIn K D_P "empty" = some (some (.int 0 tp0)))
    (hP1 : PySem.W.nsIn K D_P "not" = some (some (.int 1 tp1)))
    (hP2 : PySem.W.nsIn K D_P "again" = some (some (.int 1 tp2)))
    (hP3 : PySem.W.nsIn K D_P "then" = some (some (.int 2 tp3)))
    (a_bi : PySem.W.findIn K (.ref C_B) "__init__" = some (some (.ref f_bi)))
    (i_bi : PySem.W.isFn K (.ref f_bi) = true)
    (l_bi : K.lookup f_bi = some ⟨oc_bi, od_bi, .func (PySem.W.fnOf "__init__" "Book.__init__" (defArgs sBInit) (defBody sBInit) (defScope sBInit) (.ref dt_bi) kV_bi dc_bi pm_bi an_bi cd_bi ct_bi), sl_bi⟩)
    (c_bi : PySem.W.codeIn K cd_bi "Book.__init__" = true)
    (k_bi : PySem.W.keepIn K (.ref f_bi) = true)
    (d_bi : K.lookup dt_bi = some ⟨dcl_bi, ddx_bi, .seq #[.int 20 tk_bi] n_bi, dsl_bi⟩)
    (a_rm : PySem.W.findIn K (.ref C_B) "room" = some (some (.ref p_rm)))
    (g_rmg : PySem.W.specialIn K (.ref p_rm) "__get__" = some (some (.builtin "property.__get__")))
    (t_rm : PySem.W.takesIn K (.ref p_rm) = some true)
    (r_rm : PySem.W.recIn K p_rm "property" = some (.ref g_rm :: rest_rm))
    (l_rm : K.lookup g_rm = some ⟨oc_rm, od_rm, .func (PySem.W.fnOf "room" "Book.room" (defArgs sBRoom) (defBody sBRoom) (defScope sBRoom) .none kV_rm dc_rm pm_rm an_rm cd_rm ct_rm), sl_rm⟩)
    (c_rm : PySem.W.codeIn K cd_rm "Book.room" = true)
    (k_rm : PySem.W.keepIn K (.ref g_rm) = true)
    (gf_put : PySem.W.specialIn K (.ref f_put) "__get__" = some (some (.builtin "function.__get__")))
    (tk_put : PySem.W.takesIn K (.ref f_put) = some false)
    (fi_put : PySem.W.fnIn K f_put = true)
    (nsq_B : PySem.W.noSeq K C_B = true)
    (ha_B : PySem.W.findIn K (.ref C_B) "__class__" = some (some (.builtin "object.__class__")))
    (hm_B : PySem.W.mroIn K C_B (.type "object") = some true)
    (ty_B : PySem.W.typeIn K (.ref C_B) = some (.type "type"))
    (ss_B : PySem.W.subIn K (.ref C_B) (.ref C_B) = some true)
    : ∃ fd : FuncData, (∀ (s : Shared) (v : Value), BindsTo s fd ⟨[v], []⟩ [("script", v)]) ∧ ∀ base : Heap, K.In base → base.Ns mainGlobals mg → FnOk l.prog w K mg base CX0 13 fa fd ["script"] (spLaw K) := by
  have e := hfa.symm.trans (PySem.W.mg_of X G a_law)
  cases e
  have F_checkL := fun_mk (st := sCheckL) l_checkL c_checkL k_checkL
  have b_checkL := F_checkL.binds (ps := ["letters"]) fun _ _ _ _ _ _ us hl => match us, hl with | [_], _ => rfl
  have m_checkL := PySem.W.mg_of X G a_checkL
  have F_fits := fun_mk (st := sFits) l_fits c_fits k_fits
  have b_fits := F_fits.binds (ps := ["row", "at", "letters"]) fun _ _ _ _ _ _ us hl => match us, hl with | [_, _, _], _ => rfl
  have m_fits := PySem.W.mg_of X G a_fits
  have F_pinit := fun_mk (st := sPInit) l_pinit c_pinit k_pinit
  have b_pinit := F_pinit.binds (ps := ["self", "letters", "rows"]) fun _ _ _ _ _ _ us hl => match us, hl with | [_, _, _], _ => rfl
  have me_pinit : Meth K C_P "__init__" f_pinit := ⟨a_pinit, i_pinit, k_pinit⟩
  have F_rinit := fun_mk (st := sRInit) l_rinit c_rinit k_rinit
  have b_rinit := F_rinit.binds (ps := ["self", "letters"]) fun _ _ _ _ _ _ us hl => match us, hl with | [_, _], _ => rfl
  have me_rinit : Meth K C_R "__init__" f_rinit := ⟨a_rinit, i_rinit, k_rinit⟩
  have F_put := fun_mk (st := sPut) l_put c_put k_put
  have me_put : Meth K C_R "put" f_put := ⟨a_put, i_put, k_put⟩
  have F_comb := fun_mk (st := sCombine) l_comb c_comb k_comb
  have b_comb := F_comb.binds (ps := ["self"]) fun _ _ _ _ _ _ us hl => match us, hl with | [_], _ => rfl
  have me_comb : Meth K C_R "combine" f_comb := ⟨a_comb, i_comb, k_comb⟩
  have F_down := fun_mk (st := sDown) l_down c_down k_down
  have b_down := F_down.binds (ps := ["self", "binding"]) fun _ _ _ _ _ _ us hl => match us, hl with | [_, _], _ => rfl
  have me_down : Meth K C_R "combine_down_to" f_down := ⟨a_down, i_down, k_down⟩
  have F_wait := fun_mk (st := sWait) l_wait c_wait k_wait
  have b_wait := F_wait.binds (ps := ["self", "sign"]) fun _ _ _ _ _ _ us hl => match us, hl with | [_, _], _ => rfl
  have me_wait : Meth K C_R "wait" f_wait := ⟨a_wait, i_wait, k_wait⟩
  have F_beg := fun_mk (st := sBegin) l_beg c_beg k_beg
  have b_beg := F_beg.binds (ps := ["self", "char"]) fun _ _ _ _ _ _ us hl => match us, hl with | [_, _], _ => rfl
  have me_beg : Meth K C_R "begin" f_beg := ⟨a_beg, i_beg, k_beg⟩
  have F_close := fun_mk (st := sClose) l_close c_close k_close
  have b_close := F_close.binds (ps := ["self", "index"]) fun _ _ _ _ _ _ us hl => match us, hl with | [_, _], _ => rfl
  have me_close : Meth K C_R "close" f_close := ⟨a_close, i_close, k_close⟩
  have F_take := fun_mk (st := sTake) l_take c_take k_take
  have b_take := F_take.binds (ps := ["self", "index", "char"]) fun _ _ _ _ _ _ us hl => match us, hl with | [_, _, _], _ => rfl
  have me_take : Meth K C_R "take" f_take := ⟨a_take, i_take, k_take⟩
  have F_read := fun_mk (st := sRead) l_read c_read k_read
  have b_read := F_read.binds (ps := ["text", "letters"]) fun _ _ _ _ _ _ us hl => match us, hl with | [_, _], _ => rfl
  have m_read := PySem.W.mg_of X G a_read
  have F_name := fun_mk (st := sName) l_name c_name k_name
  have b_name := F_name.binds (ps := ["name"]) fun _ _ _ _ _ _ us hl => match us, hl with | [_], _ => rfl
  have m_name := PySem.W.mg_of X G a_name
  have F_roomC := fun_mk (st := sRoomC) l_roomC c_roomC k_roomC
  have b_roomC := F_roomC.binds (ps := ["room", "least"]) fun _ _ _ _ _ _ us hl => match us, hl with | [_, _], _ => rfl
  have m_roomC := PySem.W.mg_of X G a_roomC
  have F_blen := fun_mk (st := sBLen) l_blen c_blen k_blen
  have b_blen := F_blen.binds (ps := ["self"]) fun _ _ _ _ _ _ us hl => match us, hl with | [_], _ => rfl
  have me_blen : Meth K C_B "__len__" f_blen := ⟨a_blen, i_blen, k_blen⟩
  have F_biter := fun_mk (st := sBIter) l_biter c_biter k_biter
  have b_biter := F_biter.binds (ps := ["self"]) fun _ _ _ _ _ _ us hl => match us, hl with | [_], _ => rfl
  have me_biter : Meth K C_B "__iter__" f_biter := ⟨a_biter, i_biter, k_biter⟩
  have F_bin := fun_mk (st := sBIn) l_bin c_bin k_bin
  have b_bin := F_bin.binds (ps := ["self", "name"]) fun _ _ _ _ _ _ us hl => match us, hl with | [_, _], _ => rfl
  have me_bin : Meth K C_B "__contains__" f_bin := ⟨a_bin, i_bin, k_bin⟩
  have F_bset := fun_mk (st := sBSet) l_bset c_bset k_bset
  have b_bset := F_bset.binds (ps := ["self", "name", "text"]) fun _ _ _ _ _ _ us hl => match us, hl with | [_, _, _], _ => rfl
  have me_bset : Meth K C_B "__setitem__" f_bset := ⟨a_bset, i_bset, k_bset⟩
  have F_bdrop := fun_mk (st := sBDrop) l_bdrop c_bdrop k_bdrop
  have b_bdrop := F_bdrop.binds (ps := ["self", "name"]) fun _ _ _ _ _ _ us hl => match us, hl with | [_, _], _ => rfl
  have me_bdrop : Meth K C_B "drop" f_bdrop := ⟨a_bdrop, i_bdrop, k_bdrop⟩
  have F_bwr := fun_mk (st := sBWritten) l_bwr c_bwr k_bwr
  have b_bwr := F_bwr.binds (ps := ["self"]) fun _ _ _ _ _ _ us hl => match us, hl with | [_], _ => rfl
  have me_bwr : Meth K C_B "written" f_bwr := ⟨a_bwr, i_bwr, k_bwr⟩
  have F_merged := fun_mk (st := sMerged) l_merged c_merged k_merged
  have b_merged := F_merged.binds (ps := ["base", "one", "other"]) fun _ _ _ _ _ _ us hl => match us, hl with | [_, _, _], _ => rfl
  have m_merged := PySem.W.mg_of X G a_merged
  have F_new := fun_mk (st := sNew) l_new c_new k_new
  have b_new := F_new.binds (ps := ["script"]) fun _ _ _ _ _ _ us hl => match us, hl with | [_], _ => rfl
  have m_new := PySem.W.mg_of X G a_new
  have F_draw := fun_mk (st := sDraw) l_draw c_draw k_draw
  have b_draw := F_draw.binds (ps := ["state", "many"]) fun _ _ _ _ _ _ us hl => match us, hl with | [_, _], _ => rfl
  have m_draw := PySem.W.mg_of X G a_draw
  have F_same := fun_mk (st := sSame) l_same c_same k_same
  have b_same := F_same.binds (ps := ["actual", "expected"]) fun _ _ _ _ _ _ us hl => match us, hl with | [_, _], _ => rfl
  have m_same := PySem.W.mg_of X G a_same
  have F_letters := fun_mk (st := sLetters) l_letters c_letters k_letters
  have b_letters := F_letters.binds (ps := ["state", "most"]) fun _ _ _ _ _ _ us hl => match us, hl with | [_, _], _ => rfl
  have m_letters := PySem.W.mg_of X G a_letters
  have F_classes := fun_mk (st := sClasses) l_classes c_classes k_classes
  have b_classes := F_classes.binds (ps := ["e"]) fun _ _ _ _ _ _ us hl => match us, hl with | [_], _ => rfl
  have m_classes := PySem.W.mg_of X G a_classes
  have F_book := fun_mk (st := sBook) l_book c_book k_book
  have b_book := F_book.binds (ps := ["letters", "pairs", "room"]) fun _ _ _ _ _ _ us hl => match us, hl with | [_, _, _], _ => rfl
  have m_book := PySem.W.mg_of X G a_book
  have F_lines := fun_mk (st := sLines) l_lines c_lines k_lines
  have b_lines := F_lines.binds (ps := ["pairs"]) fun _ _ _ _ _ _ us hl => match us, hl with | [_], _ => rfl
  have m_lines := PySem.W.mg_of X G a_lines
  have F_text := fun_mk (st := sText) l_text c_text k_text
  have b_text := F_text.binds (ps := ["state", "letters"]) fun _ _ _ _ _ _ us hl => match us, hl with | [_, _], _ => rfl
  have m_text := PySem.W.mg_of X G a_text
  have F_told := fun_mk (st := sTold) l_told c_told k_told
  have b_told := F_told.binds (ps := ["pairs", "name"]) fun _ _ _ _ _ _ us hl => match us, hl with | [_, _], _ => rfl
  have m_told := PySem.W.mg_of X G a_told
  have F_chg := fun_mk (st := sChanged) l_chg c_chg k_chg
  have b_chg := F_chg.binds (ps := ["pairs", "name", "text"]) fun _ _ _ _ _ _ us hl => match us, hl with | [_, _, _], _ => rfl
  have m_chg := PySem.W.mg_of X G a_chg
  have F_due := fun_mk (st := sDue) l_due c_due k_due
  have b_due := F_due.binds (ps := ["base", "one", "other"]) fun _ _ _ _ _ _ us hl => match us, hl with | [_, _, _], _ => rfl
  have m_due := PySem.W.mg_of X G a_due
  have F_lm := fun_mk (st := sLMerged) l_lm c_lm k_lm
  have b_lm := F_lm.binds (ps := ["base", "one", "other"]) fun _ _ _ _ _ _ us hl => match us, hl with | [_, _, _], _ => rfl
  have m_lm := PySem.W.mg_of X G a_lm
  have F_ord := fun_mk (st := sOrd) l_ord c_ord k_ord
  have b_ord := F_ord.binds (ps := ["names"]) fun _ _ _ _ _ _ us hl => match us, hl with | [_], _ => rfl
  have m_ord := PySem.W.mg_of X G a_ord
  have F_is := fun_mk (st := sIs) l_is c_is k_is
  have b_is := F_is.binds (ps := ["made", "letters", "pairs"]) fun _ _ _ _ _ _ us hl => match us, hl with | [_, _, _], _ => rfl
  have m_is := PySem.W.mg_of X G a_is
  have F_mrs := fun_mk (st := sMrs) l_mrs c_mrs k_mrs
  have b_mrs := F_mrs.binds (ps := ["letters", "base", "one", "other"]) fun _ _ _ _ _ _ us hl => match us, hl with | [_, _, _, _], _ => rfl
  have m_mrs := PySem.W.mg_of X G a_mrs
  have F_lrg := fun_mk (st := sLrg) l_lrg c_lrg k_lrg
  have b_lrg := F_lrg.binds (ps := ["state", "letters"]) fun _ _ _ _ _ _ us hl => match us, hl with | [_, _], _ => rfl
  have m_lrg := PySem.W.mg_of X G a_lrg
  have F_agn := fun_mk (st := sAgn) l_agn c_agn k_agn
  have b_agn := F_agn.binds (ps := ["letters", "base", "one", "other"]) fun _ _ _ _ _ _ us hl => match us, hl with | [_, _, _, _], _ => rfl
  have m_agn := PySem.W.mg_of X G a_agn
  have F_law := fun_mk (st := sLaw) l_law c_law k_law
  have mC_R := PySem.W.mg_of X G aC_R
  have cl_R : Cls K C_R := ⟨pg_R, hd_R, po_R, sa_R⟩
  have M_R : Mk K C_R f_rinit := ⟨mk_R, a_rinit, i_rinit, kc_R⟩
  have mC_P := PySem.W.mg_of X G aC_P
  have cl_P : Cls K C_P := ⟨pg_P, hd_P, po_P, sa_P⟩
  have M_P : Mk K C_P f_pinit := ⟨mk_P, a_pinit, i_pinit, kc_P⟩
  have mC_B := PySem.W.mg_of X G aC_B
  have cl_B : Cls K C_B := ⟨pg_B, hd_B, po_B, sa_B⟩
  have mg_ML := PySem.W.mg_of X G g_ML
  have mg_SM := PySem.W.mg_of X G g_SM
  have mg_MT := PySem.W.mg_of X G g_MT
  have mg_MN := PySem.W.mg_of X G g_MN
  have mg_MM := PySem.W.mg_of X G g_MM
  have mg_SB := PySem.W.mg_of X G g_SB
  have mg_DG := PySem.W.mg_of X G g_DG
  have con_P_MOST_ROWS : ∃ u, Con K C_P "MOST_ROWS" (.int 16000) u := ⟨_, co_P_MOST_ROWS, ⟨_, rfl⟩, cg_P_MOST_ROWS, by decide⟩
  have o_len := PySem.W.mg_none_of X G z_len
  have o_int := PySem.W.mg_none_of X G z_int
  have o_range := PySem.W.mg_none_of X G z_range
  have o_tuple := PySem.W.mg_none_of X G z_tuple
  have o_sorted := PySem.W.mg_none_of X G z_sorted
  have o_enumerate := PySem.W.mg_none_of X G z_enumerate
  have o_list := PySem.W.mg_none_of X G z_list
  have o_isinstance := PySem.W.mg_none_of X G z_isinstance
  have o_bool := PySem.W.mg_none_of X G z_bool
  have o_str := PySem.W.mg_none_of X G z_str
  have o_super := PySem.W.mg_none_of X G z_super
  have o_ValueError := PySem.W.mg_none_of X G z_ValueError
  have o_iter := PySem.W.mg_none_of X G z_iter
  have mE_1 := PySem.W.mg_of X G aE_1
  have mE_2 := PySem.W.mg_of X G aE_2
  have mE_3 := PySem.W.mg_of X G aE_3
  have mE_4 := PySem.W.mg_of X G aE_4
  have mE_5 := PySem.W.mg_of X G aE_5
  have mE_6 := PySem.W.mg_of X G aE_6
  have mE_7 := PySem.W.mg_of X G aE_7
  have mE_8 := PySem.W.mg_of X G aE_8
  have mE_9 := PySem.W.mg_of X G aE_9
  have mE_10 := PySem.W.mg_of X G aE_10
  have mE_11 := PySem.W.mg_of X G aE_11
  have mE_12 := PySem.W.mg_of X G aE_12
  have mE_13 := PySem.W.mg_of X G aE_13
  have mE_14 := PySem.W.mg_of X G aE_14
  have mE_15 := PySem.W.mg_of X G aE_15
  have mE_16 := PySem.W.mg_of X G aE_16
  have mE_17 := PySem.W.mg_of X G aE_17
  have mE_18 := PySem.W.mg_of X G aE_18
  have mE_19 := PySem.W.mg_of X G aE_19
  have xc_3 : ExcC K E_3 := ⟨ga_3, gg_3, exE_3, hdE_3, gc_3, gsC, tkC, mo_3⟩
  have xf_3 : XfC K E_3 := ⟨ga_3, gg_3, exE_3, hdE_3⟩
  have kv_3 := kit_ve sv_3
  have kt_3_1 := kit_ref hdE_1 tyE_1 s_3_1 s_3_3
  have kt_3_2 := kit_ref hdE_2 tyE_2 s_3_2 s_3_3
  have kt_3_3 := kit_ref hdE_3 tyE_3 s_3_3 s_3_3
  have kt_3_4 := kit_ref hdE_4 tyE_4 s_3_4 s_3_3
  have kt_3_5 := kit_ref hdE_5 tyE_5 s_3_5 s_3_3
  have kt_3_6 := kit_ref hdE_6 tyE_6 s_3_6 s_3_3
  have kt_3_7 := kit_ref hdE_7 tyE_7 s_3_7 s_3_3
  have kt_3_8 := kit_ref hdE_8 tyE_8 s_3_8 s_3_3
  have kt_3_9 := kit_ref hdE_9 tyE_9 s_3_9 s_3_3
  have kt_3_10 := kit_ref hdE_10 tyE_10 s_3_10 s_3_3
  have kt_3_11 := kit_ref hdE_11 tyE_11 s_3_11 s_3_3
  have kt_3_12 := kit_ref hdE_12 tyE_12 s_3_12 s_3_3
  have kt_3_13 := kit_ref hdE_13 tyE_13 s_3_13 s_3_3
  have kt_3_14 := kit_ref hdE_14 tyE_14 s_3_14 s_3_3
  have kt_3_15 := kit_ref hdE_15 tyE_15 s_3_15 s_3_3
  have kt_3_16 := kit_ref hdE_16 tyE_16 s_3_16 s_3_3
  have kt_3_17 := kit_ref hdE_17 tyE_17 s_3_17 s_3_3
  have kt_3_18 := kit_ref hdE_18 tyE_18 s_3_18 s_3_3
  have kt_3_19 := kit_ref hdE_19 tyE_19 s_3_19 s_3_3
  have xc_11 : ExcC K E_11 := ⟨ga_11, gg_11, exE_11, hdE_11, gc_11, gsC, tkC, mo_11⟩
  have xf_11 : XfC K E_11 := ⟨ga_11, gg_11, exE_11, hdE_11⟩
  have kv_11 := kit_ve sv_11
  have kt_11_1 := kit_ref hdE_1 tyE_1 s_11_1 s_11_11
  have kt_11_2 := kit_ref hdE_2 tyE_2 s_11_2 s_11_11
  have kt_11_3 := kit_ref hdE_3 tyE_3 s_11_3 s_11_11
  have kt_11_4 := kit_ref hdE_4 tyE_4 s_11_4 s_11_11
  have kt_11_5 := kit_ref hdE_5 tyE_5 s_11_5 s_11_11
  have kt_11_6 := kit_ref hdE_6 tyE_6 s_11_6 s_11_11
  have kt_11_7 := kit_ref hdE_7 tyE_7 s_11_7 s_11_11
  have kt_11_8 := kit_ref hdE_8 tyE_8 s_11_8 s_11_11
  have kt_11_9 := kit_ref hdE_9 tyE_9 s_11_9 s_11_11
  have kt_11_10 := kit_ref hdE_10 tyE_10 s_11_10 s_11_11
  have kt_11_11 := kit_ref hdE_11 tyE_11 s_11_11 s_11_11
  have kt_11_12 := kit_ref hdE_12 tyE_12 s_11_12 s_11_11
  have kt_11_13 := kit_ref hdE_13 tyE_13 s_11_13 s_11_11
  have kt_11_14 := kit_ref hdE_14 tyE_14 s_11_14 s_11_11
  have kt_11_15 := kit_ref hdE_15 tyE_15 s_11_15 s_11_11
  have kt_11_16 := kit_ref hdE_16 tyE_16 s_11_16 s_11_11
  have kt_11_17 := kit_ref hdE_17 tyE_17 s_11_17 s_11_11
  have kt_11_18 := kit_ref hdE_18 tyE_18 s_11_18 s_11_11
  have kt_11_19 := kit_ref hdE_19 tyE_19 s_11_19 s_11_11
  have xc_12 : ExcC K E_12 := ⟨ga_12, gg_12, exE_12, hdE_12, gc_12, gsC, tkC, mo_12⟩
  have xf_12 : XfC K E_12 := ⟨ga_12, gg_12, exE_12, hdE_12⟩
  have kv_12 := kit_ve sv_12
  have kt_12_1 := kit_ref hdE_1 tyE_1 s_12_1 s_12_12
  have kt_12_2 := kit_ref hdE_2 tyE_2 s_12_2 s_12_12
  have kt_12_3 := kit_ref hdE_3 tyE_3 s_12_3 s_12_12
  have kt_12_4 := kit_ref hdE_4 tyE_4 s_12_4 s_12_12
  have kt_12_5 := kit_ref hdE_5 tyE_5 s_12_5 s_12_12
  have kt_12_6 := kit_ref hdE_6 tyE_6 s_12_6 s_12_12
  have kt_12_7 := kit_ref hdE_7 tyE_7 s_12_7 s_12_12
  have kt_12_8 := kit_ref hdE_8 tyE_8 s_12_8 s_12_12
  have kt_12_9 := kit_ref hdE_9 tyE_9 s_12_9 s_12_12
  have kt_12_10 := kit_ref hdE_10 tyE_10 s_12_10 s_12_12
  have kt_12_11 := kit_ref hdE_11 tyE_11 s_12_11 s_12_12
  have kt_12_12 := kit_ref hdE_12 tyE_12 s_12_12 s_12_12
  have kt_12_13 := kit_ref hdE_13 tyE_13 s_12_13 s_12_12
  have kt_12_14 := kit_ref hdE_14 tyE_14 s_12_14 s_12_12
  have kt_12_15 := kit_ref hdE_15 tyE_15 s_12_15 s_12_12
  have kt_12_16 := kit_ref hdE_16 tyE_16 s_12_16 s_12_12
  have kt_12_17 := kit_ref hdE_17 tyE_17 s_12_17 s_12_12
  have kt_12_18 := kit_ref hdE_18 tyE_18 s_12_18 s_12_12
  have kt_12_19 := kit_ref hdE_19 tyE_19 s_12_19 s_12_12
  have xc_15 : ExcC K E_15 := ⟨ga_15, gg_15, exE_15, hdE_15, gc_15, gsC, tkC, mo_15⟩
  have xf_15 : XfC K E_15 := ⟨ga_15, gg_15, exE_15, hdE_15⟩
  have kv_15 := kit_ve sv_15
  have kt_15_1 := kit_ref hdE_1 tyE_1 s_15_1 s_15_15
  have kt_15_2 := kit_ref hdE_2 tyE_2 s_15_2 s_15_15
  have kt_15_3 := kit_ref hdE_3 tyE_3 s_15_3 s_15_15
  have kt_15_4 := kit_ref hdE_4 tyE_4 s_15_4 s_15_15
  have kt_15_5 := kit_ref hdE_5 tyE_5 s_15_5 s_15_15
  have kt_15_6 := kit_ref hdE_6 tyE_6 s_15_6 s_15_15
  have kt_15_7 := kit_ref hdE_7 tyE_7 s_15_7 s_15_15
  have kt_15_8 := kit_ref hdE_8 tyE_8 s_15_8 s_15_15
  have kt_15_9 := kit_ref hdE_9 tyE_9 s_15_9 s_15_15
  have kt_15_10 := kit_ref hdE_10 tyE_10 s_15_10 s_15_15
  have kt_15_11 := kit_ref hdE_11 tyE_11 s_15_11 s_15_15
  have kt_15_12 := kit_ref hdE_12 tyE_12 s_15_12 s_15_15
  have kt_15_13 := kit_ref hdE_13 tyE_13 s_15_13 s_15_15
  have kt_15_14 := kit_ref hdE_14 tyE_14 s_15_14 s_15_15
  have kt_15_15 := kit_ref hdE_15 tyE_15 s_15_15 s_15_15
  have kt_15_16 := kit_ref hdE_16 tyE_16 s_15_16 s_15_15
  have kt_15_17 := kit_ref hdE_17 tyE_17 s_15_17 s_15_15
  have kt_15_18 := kit_ref hdE_18 tyE_18 s_15_18 s_15_15
  have kt_15_19 := kit_ref hdE_19 tyE_19 s_15_19 s_15_15
  have xc_19 : ExcC K E_19 := ⟨ga_19, gg_19, exE_19, hdE_19, gc_19, gsC, tkC, mo_19⟩
  have xf_19 : XfC K E_19 := ⟨ga_19, gg_19, exE_19, hdE_19⟩
  have kv_19 := kit_ve sv_19
  have kt_19_1 := kit_ref hdE_1 tyE_1 s_19_1 s_19_19
  have kt_19_2 := kit_ref hdE_2 tyE_2 s_19_2 s_19_19
  have kt_19_3 := kit_ref hdE_3 tyE_3 s_19_3 s_19_19
  have kt_19_4 := kit_ref hdE_4 tyE_4 s_19_4 s_19_19
  have kt_19_5 := kit_ref hdE_5 tyE_5 s_19_5 s_19_19
  have kt_19_6 := kit_ref hdE_6 tyE_6 s_19_6 s_19_19
  have kt_19_7 := kit_ref hdE_7 tyE_7 s_19_7 s_19_19
  have kt_19_8 := kit_ref hdE_8 tyE_8 s_19_8 s_19_19
  have kt_19_9 := kit_ref hdE_9 tyE_9 s_19_9 s_19_19
  have kt_19_10 := kit_ref hdE_10 tyE_10 s_19_10 s_19_19
  have kt_19_11 := kit_ref hdE_11 tyE_11 s_19_11 s_19_19
  have kt_19_12 := kit_ref hdE_12 tyE_12 s_19_12 s_19_19
  have kt_19_13 := kit_ref hdE_13 tyE_13 s_19_13 s_19_19
  have kt_19_14 := kit_ref hdE_14 tyE_14 s_19_14 s_19_19
  have kt_19_15 := kit_ref hdE_15 tyE_15 s_19_15 s_19_19
  have kt_19_16 := kit_ref hdE_16 tyE_16 s_19_16 s_19_19
  have kt_19_17 := kit_ref hdE_17 tyE_17 s_19_17 s_19_19
  have kt_19_18 := kit_ref hdE_18 tyE_18 s_19_18 s_19_19
  have kt_19_19 := kit_ref hdE_19 tyE_19 s_19_19 s_19_19
  have xm_11 : PySem.XM.XmC l.prog K E_11 E_11 I_11 "index" :=
    { cls := ⟨_, _, _, _, _, _, _, _, _, _, _, _, _, _, _, xL_11, rv_11⟩, sa := xsa_11, noF := xno_11, iC := xi_11, tI := xt_11, kC := kpE_11, exC := exE_11, vC := sv_11, tyC := tyE_11,
      fn := ⟨cc_11, cda_11, _, _, _, _, _, _, _, _, _, _, _, _, _, _, _, _, _, _, _, _, _, _, xl_11, xco_11, xpe_11, ⟨_, _, _, _, _, _, xcd_11, xv2_11, xfi_11⟩, ⟨_, _, _, xce_11⟩⟩,
      nf := by simp, bd := fun _ _ _ _ _ _ _ _ _ _ _ _ _ _ _ _ _ _ _ _ _ _ _ _ => .of_eq rfl, clD := ⟨_, xci_11⟩, subD := xmr_11, sup := xsu_11, thi := xthi, top := xtop }
  have xm_12 : PySem.XM.XmC l.prog K E_12 E_12 I_12 "name" :=
    { cls := ⟨_, _, _, _, _, _, _, _, _, _, _, _, _, _, _, xL_12, rv_12⟩, sa := xsa_12, noF := xno_12, iC := xi_12, tI := xt_12, kC := kpE_12, exC := exE_12, vC := sv_12, tyC := tyE_12,
      fn := ⟨cc_12, cda_12, _, _, _, _, _, _, _, _, _, _, _, _, _, _, _, _, _, _, _, _, _, _, xl_12, xco_12, xpe_12, ⟨_, _, _, _, _, _, xcd_12, xv2_12, xfi_12⟩, ⟨_, _, _, xce_12⟩⟩,
      nf := by simp, bd := fun _ _ _ _ _ _ _ _ _ _ _ _ _ _ _ _ _ _ _ _ _ _ _ _ => .of_eq rfl, clD := ⟨_, xci_12⟩, subD := xmr_12, sup := xsu_12, thi := xthi, top := xtop }
  have xm_15 : PySem.XM.XmC l.prog K E_15 E_15 I_15 "limit" :=
    { cls := ⟨_, _, _, _, _, _, _, _, _, _, _, _, _, _, _, xL_15, rv_15⟩, sa := xsa_15, noF := xno_15, iC := xi_15, tI := xt_15, kC := kpE_15, exC := exE_15, vC := sv_15, tyC := tyE_15,
      fn := ⟨cc_15, cda_15, _, _, _, _, _, _, _, _, _, _, _, _, _, _, _, _, _, _, _, _, _, _, xl_15, xco_15, xpe_15, ⟨_, _, _, _, _, _, xcd_15, xv2_15, xfi_15⟩, ⟨_, _, _, xce_15⟩⟩,
      nf := by simp, bd := fun _ _ _ _ _ _ _ _ _ _ _ _ _ _ _ _ _ _ _ _ _ _ _ _ => .of_eq rfl, clD := ⟨_, xci_15⟩, subD := xmr_15, sup := xsu_15, thi := xthi, top := xtop }
  have xm_19 : PySem.XM.XmC l.prog K E_19 E_19 I_19 "names" :=
    { cls := ⟨_, _, _, _, _, _, _, _, _, _, _, _, _, _, _, xL_19, rv_19⟩, sa := xsa_19, noF := xno_19, iC := xi_19, tI := xt_19, kC := kpE_19, exC := exE_19, vC := sv_19, tyC := tyE_19,
      fn := ⟨cc_19, cda_19, _, _, _, _, _, _, _, _, _, _, _, _, _, _, _, _, _, _, _, _, _, _, xl_19, xco_19, xpe_19, ⟨_, _, _, _, _, _, xcd_19, xv2_19, xfi_19⟩, ⟨_, _, _, xce_19⟩⟩,
      nf := by simp, bd := fun _ _ _ _ _ _ _ _ _ _ _ _ _ _ _ _ _ _ _ _ _ _ _ _ => .of_eq rfl, clD := ⟨_, xci_19⟩, subD := xmr_19, sup := xsu_19, thi := xthi, top := xtop }
  have TS : SameT mg := ⟨o_isinstance, o_bool, o_int, o_str, o_list, o_tuple, o_len, o_range⟩
  have mD_B := PySem.W.mg_of X G aD_B
  have mD_P := PySem.W.mg_of X G aD_P
  have TR : RdT K w mg C_R D_B := ⟨cl_R, n_R_letters, n_R_rows, n_R_operands, n_R_waiting, n_R_ready, mC_R, mD_B, bd_of lD_B kD_B hB0 hB1 hB2 hB3 hB4, o_len, o_list, o_range⟩
  have TP : PtT K w mg C_P D_P := ⟨cl_P, n_P_letters, n_P_rows, con_P_MOST_ROWS, mC_P, mD_P, ⟨_, _, lD_P, kD_P, loD_P⟩, ⟨_, _, _, lD_P, kD_P, hP0, ⟨_, rfl⟩⟩, ⟨_, _, _, lD_P, kD_P, hP1, ⟨_, rfl⟩⟩, ⟨_, _, _, lD_P, kD_P, hP2, ⟨_, rfl⟩⟩, ⟨_, _, _, lD_P, kD_P, hP3, ⟨_, rfl⟩⟩, TS, o_enumerate⟩
  have TB : BkT K mg C_B := ⟨cl_B, n_B_letters, n_B_texts, n_B_patterns, n_B_former_texts, n_B_former_patterns, n_B__room, mC_B, o_len⟩
  have TE : BkE l.prog K mg (cAt E_1 [E_1, E_1, E_2, E_3, E_4, E_5, E_6, E_7, E_8, E_9, E_10, E_11, E_12, E_13, E_14, E_15, E_16, E_17, E_18, E_19]) I_11 I_12 I_15 := ⟨xm_11, xm_12, xm_15, o_super, mE_11, mE_12, mE_15⟩
  have TM : MgT l.prog K mg (cAt E_1 [E_1, E_1, E_2, E_3, E_4, E_5, E_6, E_7, E_8, E_9, E_10, E_11, E_12, E_13, E_14, E_15, E_16, E_17, E_18, E_19]) I_19 := ⟨xm_19, mE_19, mE_3, xq_3, kpE_3, exE_3, tyE_3, o_list, o_tuple, o_sorted⟩
  have TC : ClsT mg (cAt E_1 [E_1, E_1, E_2, E_3, E_4, E_5, E_6, E_7, E_8, E_9, E_10, E_11, E_12, E_13, E_14, E_15, E_16, E_17, E_18, E_19]) := ⟨mE_1, mE_2, mE_3, mE_4, mE_5, mE_6, mE_7, mE_8, mE_9, mE_10, mE_11, mE_12, mE_13, mE_14, mE_15, mE_16, mE_17, mE_18⟩
  have is_3 : IsOf K (cAt E_1 [E_1, E_1, E_2, E_3, E_4, E_5, E_6, E_7, E_8, E_9, E_10, E_11, E_12, E_13, E_14, E_15, E_16, E_17, E_18, E_19]) E_3 [true, true, false, true, false, false, false, false, false, false, false, false, false, false, false, false, false, false, false] := .cons kv_3 (.cons kt_3_1 (.cons kt_3_2 (.cons kt_3_3 (.cons kt_3_4 (.cons kt_3_5 (.cons kt_3_6 (.cons kt_3_7 (.cons kt_3_8 (.cons kt_3_9 (.cons kt_3_10 (.cons kt_3_11 (.cons kt_3_12 (.cons kt_3_13 (.cons kt_3_14 (.cons kt_3_15 (.cons kt_3_16 (.cons kt_3_17 (.cons kt_3_18 .nil))))))))))))))))))
  have is_15 : IsOf K (cAt E_1 [E_1, E_1, E_2, E_3, E_4, E_5, E_6, E_7, E_8, E_9, E_10, E_11, E_12, E_13, E_14, E_15, E_16, E_17, E_18, E_19]) E_15 [true, true, false, false, false, false, false, false, false, false, false, false, false, false, false, true, false, false, false] := .cons kv_15 (.cons kt_15_1 (.cons kt_15_2 (.cons kt_15_3 (.cons kt_15_4 (.cons kt_15_5 (.cons kt_15_6 (.cons kt_15_7 (.cons kt_15_8 (.cons kt_15_9 (.cons kt_15_10 (.cons kt_15_11 (.cons kt_15_12 (.cons kt_15_13 (.cons kt_15_14 (.cons kt_15_15 (.cons kt_15_16 (.cons kt_15_17 (.cons kt_15_18 .nil))))))))))))))))))
  have is_19 : IsOf K (cAt E_1 [E_1, E_1, E_2, E_3, E_4, E_5, E_6, E_7, E_8, E_9, E_10, E_11, E_12, E_13, E_14, E_15, E_16, E_17, E_18, E_19]) E_19 [true, true, false, false, false, false, false, false, false, false, false, false, false, false, false, false, false, false, false] := .cons kv_19 (.cons kt_19_1 (.cons kt_19_2 (.cons kt_19_3 (.cons kt_19_4 (.cons kt_19_5 (.cons kt_19_6 (.cons kt_19_7 (.cons kt_19_8 (.cons kt_19_9 (.cons kt_19_10 (.cons kt_19_11 (.cons kt_19_12 (.cons kt_19_13 (.cons kt_19_14 (.cons kt_19_15 (.cons kt_19_16 (.cons kt_19_17 (.cons kt_19_18 .nil))))))))))))))))))
  have TY : MTryT K mg (cAt E_1 [E_1, E_1, E_2, E_3, E_4, E_5, E_6, E_7, E_8, E_9, E_10, E_11, E_12, E_13, E_14, E_15, E_16, E_17, E_18, E_19]) := ⟨⟨xc_3, ⟨_, is_3, by decide +kernel⟩, xf_3⟩, ⟨xc_15, ⟨_, is_15, by decide +kernel⟩, xf_15⟩, ⟨xc_19, ⟨_, is_19, by decide +kernel⟩, xf_19⟩, xno_15, xno_19, mE_1, mE_15, mE_19, (PySem.W.exm_ref exE_19 hdE_19 tyE_19 s_19_19), (PySem.W.exm_ref exE_19 hdE_19 tyE_19 s_15_19), (PySem.W.exm_ref exE_15 hdE_15 tyE_15 s_15_15), (PySem.W.exm_ref exE_19 hdE_19 tyE_19 s_3_19), (PySem.W.exm_ref exE_15 hdE_15 tyE_15 s_3_15), (PySem.W.exm_ref exE_1 hdE_1 tyE_1 s_3_1), kt_19_19, kt_15_19, kt_3_19, o_isinstance⟩
  have FD := bi_fd l_bi c_bi k_bi d_bi
  have M_B : Mk K C_B f_bi := ⟨mk_B, a_bi, i_bi, kc_B⟩
  have F_rm := fun_mk (st := sBRoom) l_rm c_rm k_rm
  have b_rm := F_rm.binds (ps := ["self"]) fun _ _ _ _ _ _ us hl => match us, hl with | [_], _ => rfl
  have TI : BkI K mg C_B p_rm g_rm := ⟨ha_B, gsC, tkC, hm_B, kit_ref hd_B ty_B ss_B ss_B, ⟨a_rm, g_rmg, t_rm, ⟨_, r_rm⟩⟩⟩
  refine ⟨PySem.W.fnOf "law" "law" (defArgs sLaw) (defBody sLaw) (defScope sLaw) .none kV_law dc_law pm_law an_law cd_law ct_law, fun s v => .of_eq rfl, fun base _ _ => ?_⟩
  have cDraw : Cal l.prog w K mg base "_law_draw" 1 ["state", "many"] (spDraw K) := ⟨_, _, ok_draw F_draw o_len o_int, m_draw, F_draw.kp, b_draw⟩
  have cS0 : Cal l.prog w K mg base "_law_same" 0 ["actual", "expected"] (spSame K 0) := ⟨_, _, same0, m_same, F_same.kp, b_same⟩
  have cS1 : Cal l.prog w K mg base "_law_same" 1 ["actual", "expected"] (spSame K 1) := ⟨_, _, sameS F_same TS cS0, m_same, F_same.kp, b_same⟩
  have cS2 : Cal l.prog w K mg base "_law_same" 2 ["actual", "expected"] (spSame K 2) := ⟨_, _, sameS F_same TS cS1, m_same, F_same.kp, b_same⟩
  have cS3 : Cal l.prog w K mg base "_law_same" 3 ["actual", "expected"] (spSame K 3) := ⟨_, _, sameS F_same TS cS2, m_same, F_same.kp, b_same⟩
  have cS4 : Cal l.prog w K mg base "_law_same" 4 ["actual", "expected"] (spSame K 4) := ⟨_, _, sameS F_same TS cS3, m_same, F_same.kp, b_same⟩
  have cCL : Cal l.prog w K mg base "check_letters" 1 ["letters"] (spCheckL) := ⟨_, _, ok_checkL F_checkL o_len mg_ML mg_SM, m_checkL, F_checkL.kp, b_checkL⟩
  have mkR : MkCal l.prog w K mg base C_R 1 ["self", "letters"] (spRInit C_R) := ⟨_, _, ok_rinit F_rinit TR, M_R, b_rinit⟩
  have cPut : MCalR l.prog w K mg base C_R "put" 1 (spPut C_R) := ⟨_, ok_put0 l_put c_put TR, me_put, ⟨me_put, gf_put, tk_put, by decide +kernel, fi_put⟩⟩
  have cComb : MCal l.prog w K mg base C_R "combine" 2 ["self"] (spCombine C_R) := ⟨_, _, ok_combine F_comb TR cPut, me_comb, b_comb⟩
  have cDown : MCal l.prog w K mg base C_R "combine_down_to" 3 ["self", "binding"] (spDown C_R) := ⟨_, _, ok_down F_down TR cComb, me_down, b_down⟩
  have cWait : MCal l.prog w K mg base C_R "wait" 4 ["self", "sign"] (spWait C_R) := ⟨_, _, ok_wait F_wait TR cDown, me_wait, b_wait⟩
  have cBeg : MCal l.prog w K mg base C_R "begin" 5 ["self", "char"] (spBegin C_R) := ⟨_, _, ok_begin F_beg TR cWait cPut, me_beg, b_beg⟩
  have cClose : MCalX l.prog w K mg base C_R "close" 4 ["self", "index"] (spClose (cAt E_1 [E_1, E_1, E_2, E_3, E_4, E_5, E_6, E_7, E_8, E_9, E_10, E_11, E_12, E_13, E_14, E_15, E_16, E_17, E_18, E_19]) C_R) := ⟨_, _, ok_close F_close TR TE cDown, me_close, b_close⟩
  have cTake : MCalX l.prog w K mg base C_R "take" 6 ["self", "index", "char"] (spTake (cAt E_1 [E_1, E_1, E_2, E_3, E_4, E_5, E_6, E_7, E_8, E_9, E_10, E_11, E_12, E_13, E_14, E_15, E_16, E_17, E_18, E_19]) C_R) := ⟨_, _, ok_take F_take TR TE cBeg cWait cPut cClose, me_take, b_take⟩
  have cFits : Cal l.prog w K mg base "fits" 1 ["row", "at", "letters"] (spFits) := ⟨_, _, ok_fits F_fits TP, m_fits, F_fits.kp, b_fits⟩
  have mkP : MkCal l.prog w K mg base C_P 2 ["self", "letters", "rows"] (spPInit C_P) := ⟨_, _, ok_pinit F_pinit TP cCL cFits, M_P, b_pinit⟩
  have cRead : CalX l.prog w K mg base "read_pattern" 7 ["text", "letters"] (spRead (cAt E_1 [E_1, E_1, E_2, E_3, E_4, E_5, E_6, E_7, E_8, E_9, E_10, E_11, E_12, E_13, E_14, E_15, E_16, E_17, E_18, E_19]) C_P) := ⟨_, _, ok_read F_read TR TE TP mg_MT cCL mkR mkP cDown cTake, m_read, F_read.kp, b_read⟩
  have cName : CalX l.prog w K mg base "check_name" 3 ["name"] (spName (cAt E_1 [E_1, E_1, E_2, E_3, E_4, E_5, E_6, E_7, E_8, E_9, E_10, E_11, E_12, E_13, E_14, E_15, E_16, E_17, E_18, E_19])) := ⟨_, _, ok_name F_name TE o_len mg_MM mg_SB mg_DG, m_name, F_name.kp, b_name⟩
  have cRoomC : Cal l.prog w K mg base "check_room" 1 ["room", "least"] (spRoomC) := ⟨_, _, ok_roomC F_roomC mg_MN, m_roomC, F_roomC.kp, b_roomC⟩
  have GB := ok_binit (P := l.prog) (w := w) (base := base) (CP := C_P) FD TB cCL cRoomC
  have mkB : MkCal l.prog w K mg base C_B 2 ["self", "letters", "room"] (spBInit C_B C_P) := ⟨_, _, GB, M_B, bi_all FD⟩
  obtain ⟨ds, vds, bds⟩ := bi_dfl FD
  have mkD : MkCalD l.prog w K mg base C_B 2 ["self", "letters", "room"] (spBInit C_B C_P) [.int 20] := ⟨_, _, ds, GB, M_B, bds, vds⟩
  have cLen : MCal l.prog w K mg base C_B "__len__" 1 ["self"] (spBLen C_B) := ⟨_, _, ok_blen F_blen TB, me_blen, b_blen⟩
  have cIn : MCal l.prog w K mg base C_B "__contains__" 1 ["self", "name"] (spBIn C_B) := ⟨_, _, ok_bin F_bin TB, me_bin, b_bin⟩
  have cSet : MCalX l.prog w K mg base C_B "__setitem__" 8 ["self", "name", "text"] (spBSet (cAt E_1 [E_1, E_1, E_2, E_3, E_4, E_5, E_6, E_7, E_8, E_9, E_10, E_11, E_12, E_13, E_14, E_15, E_16, E_17, E_18, E_19]) C_B C_P) := ⟨_, _, ok_bset F_bset TB TE cName cRead, me_bset, b_bset⟩
  have BM : BkM l.prog w K mg base (cAt E_1 [E_1, E_1, E_2, E_3, E_4, E_5, E_6, E_7, E_8, E_9, E_10, E_11, E_12, E_13, E_14, E_15, E_16, E_17, E_18, E_19]) C_B C_P := ⟨⟨_, _, ok_biter F_biter TB o_iter, me_biter, b_biter⟩, cLen, cIn, cSet, nsq_B, mkB⟩
  have cDrop : MCalX l.prog w K mg base C_B "drop" 3 ["self", "name"] (spBDrop (cAt E_1 [E_1, E_1, E_2, E_3, E_4, E_5, E_6, E_7, E_8, E_9, E_10, E_11, E_12, E_13, E_14, E_15, E_16, E_17, E_18, E_19]) C_B C_P) := ⟨_, _, ok_bdrop F_bdrop TB TE, me_bdrop, b_bdrop⟩
  have cWr : MCal l.prog w K mg base C_B "written" 1 ["self"] (spBWritten C_B C_P) := ⟨_, _, ok_bwritten F_bwr TB, me_bwr, b_bwr⟩
  have cMerged : CalX l.prog w K mg base "merged_books" 9 ["base", "one", "other"] (spMerged (cAt E_1 [E_1, E_1, E_2, E_3, E_4, E_5, E_6, E_7, E_8, E_9, E_10, E_11, E_12, E_13, E_14, E_15, E_16, E_17, E_18, E_19]) C_B C_P) := ⟨_, _, ok_merged F_merged TB TM BM TE mg_MN, m_merged, F_merged.kp, b_merged⟩
  have cE : CalE l.prog w K mg base (cAt E_1 [E_1, E_1, E_2, E_3, E_4, E_5, E_6, E_7, E_8, E_9, E_10, E_11, E_12, E_13, E_14, E_15, E_16, E_17, E_18, E_19]) := ⟨_, _, ok_classes F_classes TC TS o_ValueError, m_classes, F_classes.kp, b_classes⟩
  have cBook : Cal l.prog w K mg base "_law_book" 9 ["letters", "pairs", "room"] (spBook C_B C_P) := ⟨_, _, ok_book F_book TB BM, m_book, F_book.kp, b_book⟩
  have cLines : Cal l.prog w K mg base "_law_lines" 1 ["pairs"] (spLines) := ⟨_, _, ok_lines F_lines, m_lines, F_lines.kp, b_lines⟩
  have cTold : Cal l.prog w K mg base "_law_told" 1 ["pairs", "name"] (spTold) := ⟨_, _, ok_told F_told, m_told, F_told.kp, b_told⟩
  have cText : Cal l.prog w K mg base "_law_text" 2 ["state", "letters"] (spText K) := ⟨_, _, ok_text F_text o_len cDraw, m_text, F_text.kp, b_text⟩
  have cChg : Cal l.prog w K mg base "_law_changed" 2 ["pairs", "name", "text"] (spChanged) := ⟨_, _, ok_changed F_chg o_int cTold, m_chg, F_chg.kp, b_chg⟩
  have cDue : Cal l.prog w K mg base "_law_due" 2 ["base", "one", "other"] (spDue) := ⟨_, _, ok_due F_due cTold, m_due, F_due.kp, b_due⟩
  have cLM : Cal l.prog w K mg base "_law_merged" 10 ["base", "one", "other"] (spLMerged C_B C_P) := ⟨_, _, ok_lmerged F_lm TY cE cMerged, m_lm, F_lm.kp, b_lm⟩
  have cOrd : Cal l.prog w K mg base "_law_ordered" 1 ["names"] (spOrd) := ⟨_, _, ok_ord F_ord, m_ord, F_ord.kp, b_ord⟩
  have cIs : Cal l.prog w K mg base "_law_is" 5 ["made", "letters", "pairs"] (spIs C_B C_P) := ⟨_, _, ok_is F_is TB TS TI BM (ok_room F_rm TB) b_rm cWr cLines cS4, m_is, F_is.kp, b_is⟩
  have cMrs : Cal l.prog w K mg base "_law_merges" 11 ["letters", "base", "one", "other"] (spMrs) := ⟨_, _, ok_mrs F_mrs TB TS BM cWr cDrop cBook cDue cLM cOrd cIs cLines cS4, m_mrs, F_mrs.kp, b_mrs⟩
  have cAgn : Cal l.prog w K mg base "_law_again" 12 ["letters", "base", "one", "other"] (spAgn) := ⟨_, _, ok_agn F_agn o_len cDue cTold cMrs, m_agn, F_agn.kp, b_agn⟩
  have cLrg : Cal l.prog w K mg base "_law_large" 11 ["state", "letters"] (spLrg K) := ⟨_, _, ok_lrg F_lrg TB TS mkD cDraw cBook cLM cIs cS4, m_lrg, F_lrg.kp, b_lrg⟩
  have cNew : Cal l.prog w K mg base "_law_new" 1 ["script"] (spNew K) := ⟨_, _, ok_new F_new o_list, m_new, F_new.kp, b_new⟩
  have cLet : Cal l.prog w K mg base "_law_letters" 2 ["state", "most"] (spLetters K) := ⟨_, _, ok_letters F_letters o_range cDraw, m_letters, F_letters.kp, b_letters⟩
  exact ok_law F_law ⟨TB, TS, mkD, cNew, cLet, cDraw, cText, cChg, cDue, cBook, cLM, cMrs, cAgn, cLrg, cS4⟩
theorem walk {l : PySem.W.OpenLaw} {q : Program} {loose : List Str} {XP : (Str → Option Value) → Heap → Prop} {YP : World → Heap → Prop} {d : DefRec} {K : Params → PySem.W.Frag} (hn : l.most = some 63) (hdf : d.params.defaults = [])
    (hY : ∀ (w : World) (h : Heap), YP w h → (K w.params).In h)
    (F : ∀ (w : World) (mg : Str → Option Value) (fa : Addr) (h : Heap), (K w.params).In h → h.Ns mainGlobals mg → mg d.name = some (.ref fa) →
      ∃ fd : FuncData, (∀ (s : Shared) (u : Value), BindsTo s fd ⟨[u], []⟩ [("script", u)]) ∧ ∀ base : Heap, (K w.params).In base → base.Ns mainGlobals mg → FnOk l.prog w (K w.params) mg base CX0 13 fa fd ["script"] (spLaw (K w.params))) :
    PySem.W.WalkO q loose XP YP l.row.toRowW d [] (fun f vs => PySem.call f vs) :=
  L2.walk_ofB (n := 63) (k := 13) (x := "script") (CX := fun _ => CX0) (sp := fun w => spLaw (K w.params)) hn (by decide) hdf ⟨rfl, by decide, by decide⟩ hY F (fun _ _ a ns hl hb _ hS => ⟨a, ns, rfl, hS, hl, hb, fun _ => rfl⟩) fun _ _ _ _ _ z => z
end W8

set_option Elab.async false
set_option linter.all false
set_option maxRecDepth 100000
set_option maxHeartbeats 0
namespace W8
open PySem PySem.Spec PyProof.Rows L2 L2E
def A_C_R (K : PySem.W.Frag) : Addr := HH.refOf (PySem.W.nsIn K mainGlobals "Reader")
def A_C_P (K : PySem.W.Frag) : Addr := HH.refOf (PySem.W.nsIn K mainGlobals "Pattern")
def A_C_B (K : PySem.W.Frag) : Addr := HH.refOf (PySem.W.nsIn K mainGlobals "Book")
def A_f_checkL (K : PySem.W.Frag) : Addr := HH.refOf (PySem.W.nsIn K mainGlobals "check_letters")
def A_f_fits (K : PySem.W.Frag) : Addr := HH.refOf (PySem.W.nsIn K mainGlobals "fits")
def A_f_pinit (K : PySem.W.Frag) : Addr := HH.refOf (PySem.W.findIn K (.ref (A_C_P K)) "__init__")
def A_f_rinit (K : PySem.W.Frag) : Addr := HH.refOf (PySem.W.findIn K (.ref (A_C_R K)) "__init__")
def A_f_put (K : PySem.W.Frag) : Addr := HH.refOf (PySem.W.findIn K (.ref (A_C_R K)) "put")
def A_f_comb (K : PySem.W.Frag) : Addr := HH.refOf (PySem.W.findIn K (.ref (A_C_R K)) "combine")
def A_f_down (K : PySem.W.Frag) : Addr := HH.refOf (PySem.W.findIn K (.ref (A_C_R K)) "combine_down_to")
def A_f_wait (K : PySem.W.Frag) : Addr := HH.refOf (PySem.W.findIn K (.ref (A_C_R K)) "wait")
def A_f_beg (K : PySem.W.Frag) : Addr := HH.refOf (PySem.W.findIn K (.ref (A_C_R K)) "begin")
def A_f_close (K : PySem.W.Frag) : Addr := HH.refOf (PySem.W.findIn K (.ref (A_C_R K)) "close")
def A_f_take (K : PySem.W.Frag) : Addr := HH.refOf (PySem.W.findIn K (.ref (A_C_R K)) "take")
def A_f_read (K : PySem.W.Frag) : Addr := HH.refOf (PySem.W.nsIn K mainGlobals "read_pattern")
def A_f_name (K : PySem.W.Frag) : Addr := HH.refOf (PySem.W.nsIn K mainGlobals "check_name")
def A_f_roomC (K : PySem.W.Frag) : Addr := HH.refOf (PySem.W.nsIn K mainGlobals "check_room")
def A_f_blen (K : PySem.W.Frag) : Addr := HH.refOf (PySem.W.findIn K (.ref (A_C_B K)) "__len__")
def A_f_biter (K : PySem.W.Frag) : Addr := HH.refOf (PySem.W.findIn K (.ref (A_C_B K)) "__iter__")
def A_f_bin (K : PySem.W.Frag) : Addr := HH.refOf (PySem.W.findIn K (.ref (A_C_B K)) "__contains__")
def A_f_bset (K : PySem.W.Frag) : Addr := HH.refOf (PySem.W.findIn K (.ref (A_C_B K)) "__setitem__")
def A_f_bdrop (K : PySem.W.Frag) : Addr := HH.refOf (PySem.W.findIn K (.ref (A_C_B K)) "drop")
def A_f_bwr (K : PySem.W.Frag) : Addr := HH.refOf (PySem.W.findIn K (.ref (A_C_B K)) "written")
def A_f_merged (K : PySem.W.Frag) : Addr := HH.refOf (PySem.W.nsIn K mainGlobals "merged_books")
def A_f_new (K : PySem.W.Frag) : Addr := HH.refOf (PySem.W.nsIn K mainGlobals "_law_new")
def A_f_draw (K : PySem.W.Frag) : Addr := HH.refOf (PySem.W.nsIn K mainGlobals "_law_draw")
def A_f_same (K : PySem.W.Frag) : Addr := HH.refOf (PySem.W.nsIn K mainGlobals "_law_same")
def A_f_letters (K : PySem.W.Frag) : Addr := HH.refOf (PySem.W.nsIn K mainGlobals "_law_letters")
def A_f_classes (K : PySem.W.Frag) : Addr := HH.refOf (PySem.W.nsIn K mainGlobals "_law_classes")
def A_f_book (K : PySem.W.Frag) : Addr := HH.refOf (PySem.W.nsIn K mainGlobals "_law_book")
def A_f_lines (K : PySem.W.Frag) : Addr := HH.refOf (PySem.W.nsIn K mainGlobals "_law_lines")
def A_f_text (K : PySem.W.Frag) : Addr := HH.refOf (PySem.W.nsIn K mainGlobals "_law_text")
def A_f_told (K : PySem.W.Frag) : Addr := HH.refOf (PySem.W.nsIn K mainGlobals "_law_told")
def A_f_chg (K : PySem.W.Frag) : Addr := HH.refOf (PySem.W.nsIn K mainGlobals "_law_changed")
def A_f_due (K : PySem.W.Frag) : Addr := HH.refOf (PySem.W.nsIn K mainGlobals "_law_due")
def A_f_lm (K : PySem.W.Frag) : Addr := HH.refOf (PySem.W.nsIn K mainGlobals "_law_merged")
def A_f_ord (K : PySem.W.Frag) : Addr := HH.refOf (PySem.W.nsIn K mainGlobals "_law_ordered")
def A_f_is (K : PySem.W.Frag) : Addr := HH.refOf (PySem.W.nsIn K mainGlobals "_law_is")
def A_f_mrs (K : PySem.W.Frag) : Addr := HH.refOf (PySem.W.nsIn K mainGlobals "_law_merges")
def A_f_lrg (K : PySem.W.Frag) : Addr := HH.refOf (PySem.W.nsIn K mainGlobals "_law_large")
def A_f_agn (K : PySem.W.Frag) : Addr := HH.refOf (PySem.W.nsIn K mainGlobals "_law_again")
def A_f_law (K : PySem.W.Frag) : Addr := HH.refOf (PySem.W.nsIn K mainGlobals "law")
def A_E_1 (K : PySem.W.Frag) : Addr := HH.refOf (PySem.W.nsIn K mainGlobals "ToolError")
def A_E_2 (K : PySem.W.Frag) : Addr := HH.refOf (PySem.W.nsIn K mainGlobals "LettersError")
def A_E_3 (K : PySem.W.Frag) : Addr := HH.refOf (PySem.W.nsIn K mainGlobals "MixedLetters")
def A_E_4 (K : PySem.W.Frag) : Addr := HH.refOf (PySem.W.nsIn K mainGlobals "TableError")
def A_E_5 (K : PySem.W.Frag) : Addr := HH.refOf (PySem.W.nsIn K mainGlobals "ActionError")
def A_E_6 (K : PySem.W.Frag) : Addr := HH.refOf (PySem.W.nsIn K mainGlobals "LassoError")
def A_E_7 (K : PySem.W.Frag) : Addr := HH.refOf (PySem.W.nsIn K mainGlobals "LetterError")
def A_E_8 (K : PySem.W.Frag) : Addr := HH.refOf (PySem.W.nsIn K mainGlobals "StateError")
def A_E_9 (K : PySem.W.Frag) : Addr := HH.refOf (PySem.W.nsIn K mainGlobals "RowError")
def A_E_10 (K : PySem.W.Frag) : Addr := HH.refOf (PySem.W.nsIn K mainGlobals "NotStarFree")
def A_E_11 (K : PySem.W.Frag) : Addr := HH.refOf (PySem.W.nsIn K mainGlobals "TextError")
def A_E_12 (K : PySem.W.Frag) : Addr := HH.refOf (PySem.W.nsIn K mainGlobals "NameFault")
def A_E_13 (K : PySem.W.Frag) : Addr := HH.refOf (PySem.W.nsIn K mainGlobals "LineError")
def A_E_14 (K : PySem.W.Frag) : Addr := HH.refOf (PySem.W.nsIn K mainGlobals "CountsError")
def A_E_15 (K : PySem.W.Frag) : Addr := HH.refOf (PySem.W.nsIn K mainGlobals "LimitError")
def A_E_16 (K : PySem.W.Frag) : Addr := HH.refOf (PySem.W.nsIn K mainGlobals "TooManyStates")
def A_E_17 (K : PySem.W.Frag) : Addr := HH.refOf (PySem.W.nsIn K mainGlobals "TooManyActions")
def A_E_18 (K : PySem.W.Frag) : Addr := HH.refOf (PySem.W.nsIn K mainGlobals "TooManyRows")
def A_E_19 (K : PySem.W.Frag) : Addr := HH.refOf (PySem.W.nsIn K mainGlobals "ClashError")
def A_I_11 (K : PySem.W.Frag) : Addr := HH.refOf (PySem.W.findIn K (.ref (A_E_11 K)) "__init__")
abbrev sXi_11 : Stmt := inClass (top 10) 0
def A_cda_11 (K : PySem.W.Frag) : Addr := HH.adOf (HH.fdO K (A_I_11 K)).code
def A_I_12 (K : PySem.W.Frag) : Addr := HH.refOf (PySem.W.findIn K (.ref (A_E_12 K)) "__init__")
abbrev sXi_12 : Stmt := inClass (top 11) 0
def A_cda_12 (K : PySem.W.Frag) : Addr := HH.adOf (HH.fdO K (A_I_12 K)).code
def A_I_15 (K : PySem.W.Frag) : Addr := HH.refOf (PySem.W.findIn K (.ref (A_E_15 K)) "__init__")
abbrev sXi_15 : Stmt := inClass (top 16) 0
def A_cda_15 (K : PySem.W.Frag) : Addr := HH.adOf (HH.fdO K (A_I_15 K)).code
def A_I_19 (K : PySem.W.Frag) : Addr := HH.refOf (PySem.W.findIn K (.ref (A_E_19 K)) "__init__")
abbrev sXi_19 : Stmt := inClass (top 13) 0
def A_cda_19 (K : PySem.W.Frag) : Addr := HH.adOf (HH.fdO K (A_I_19 K)).code
def A_D_B (K : PySem.W.Frag) : Addr := HH.refOf (PySem.W.nsIn K mainGlobals "BINDING")
def A_D_P (K : PySem.W.Frag) : Addr := HH.refOf (PySem.W.nsIn K mainGlobals "PARTS")
def A_f_bi (K : PySem.W.Frag) : Addr := HH.refOf (PySem.W.findIn K (.ref (A_C_B K)) "__init__")
def A_dt_bi (K : PySem.W.Frag) : Addr := HH.adOf (HH.fdO K (A_f_bi K)).defaults
def A_p_rm (K : PySem.W.Frag) : Addr := HH.refOf (PySem.W.findIn K (.ref (A_C_B K)) "room")
def A_g_rm (K : PySem.W.Frag) : Addr := HH.hdOf (PySem.W.recIn K (A_p_rm K) "property")
abbrev EX0 (K : PySem.W.Frag) : Prop := (PySem.W.nsIn K mainGlobals "Reader" = some (some (.ref (A_C_R K)))) ∧
  (PySem.W.nsIn K mainGlobals "Pattern" = some (some (.ref (A_C_P K)))) ∧
  (PySem.W.nsIn K mainGlobals "Book" = some (some (.ref (A_C_B K)))) ∧
  (PySem.W.nsIn K mainGlobals "check_letters" = some (some (.ref (A_f_checkL K)))) ∧
  (PySem.W.codeIn K (HH.fdO K (A_f_checkL K)).code "check_letters" = true) ∧
  (PySem.W.keepIn K (.ref (A_f_checkL K)) = true) ∧
  (PySem.W.nsIn K mainGlobals "fits" = some (some (.ref (A_f_fits K)))) ∧
  (PySem.W.codeIn K (HH.fdO K (A_f_fits K)).code "fits" = true) ∧
  (PySem.W.keepIn K (.ref (A_f_fits K)) = true) ∧
  (PySem.W.findIn K (.ref (A_C_P K)) "__init__" = some (some (.ref (A_f_pinit K)))) ∧
  (PySem.W.isFn K (.ref (A_f_pinit K)) = true) ∧
  (PySem.W.codeIn K (HH.fdO K (A_f_pinit K)).code "Pattern.__init__" = true) ∧
  (PySem.W.keepIn K (.ref (A_f_pinit K)) = true) ∧
  (PySem.W.findIn K (.ref (A_C_R K)) "__init__" = some (some (.ref (A_f_rinit K)))) ∧
  (PySem.W.isFn K (.ref (A_f_rinit K)) = true) ∧
  (PySem.W.codeIn K (HH.fdO K (A_f_rinit K)).code "Reader.__init__" = true) ∧
  (PySem.W.keepIn K (.ref (A_f_rinit K)) = true) ∧
  (PySem.W.findIn K (.ref (A_C_R K)) "put" = some (some (.ref (A_f_put K)))) ∧
  (PySem.W.isFn K (.ref (A_f_put K)) = true) ∧
  (PySem.W.codeIn K (HH.fdO K (A_f_put K)).code "Reader.put" = true)
abbrev EX1 (K : PySem.W.Frag) : Prop := (PySem.W.keepIn K (.ref (A_f_put K)) = true) ∧
  (PySem.W.findIn K (.ref (A_C_R K)) "combine" = some (some (.ref (A_f_comb K)))) ∧
  (PySem.W.isFn K (.ref (A_f_comb K)) = true) ∧
  (PySem.W.codeIn K (HH.fdO K (A_f_comb K)).code "Reader.combine" = true) ∧
  (PySem.W.keepIn K (.ref (A_f_comb K)) = true) ∧
  (PySem.W.findIn K (.ref (A_C_R K)) "combine_down_to" = some (some (.ref (A_f_down K)))) ∧
  (PySem.W.isFn K (.ref (A_f_down K)) = true) ∧
  (PySem.W.codeIn K (HH.fdO K (A_f_down K)).code "Reader.combine_down_to" = true) ∧
  (PySem.W.keepIn K (.ref (A_f_down K)) = true) ∧
  (PySem.W.findIn K (.ref (A_C_R K)) "wait" = some (some (.ref (A_f_wait K)))) ∧
  (PySem.W.isFn K (.ref (A_f_wait K)) = true) ∧
  (PySem.W.codeIn K (HH.fdO K (A_f_wait K)).code "Reader.wait" = true) ∧
  (PySem.W.keepIn K (.ref (A_f_wait K)) = true) ∧
  (PySem.W.findIn K (.ref (A_C_R K)) "begin" = some (some (.ref (A_f_beg K)))) ∧
  (PySem.W.isFn K (.ref (A_f_beg K)) = true) ∧
  (PySem.W.codeIn K (HH.fdO K (A_f_beg K)).code "Reader.begin" = true) ∧
  (PySem.W.keepIn K (.ref (A_f_beg K)) = true) ∧
  (PySem.W.findIn K (.ref (A_C_R K)) "close" = some (some (.ref (A_f_close K)))) ∧
  (PySem.W.isFn K (.ref (A_f_close K)) = true) ∧
  (PySem.W.codeIn K (HH.fdO K (A_f_close K)).code "Reader.close" = true)
abbrev EX2 (K : PySem.W.Frag) : Prop := (PySem.W.keepIn K (.ref (A_f_close K)) = true) ∧
  (PySem.W.findIn K (.ref (A_C_R K)) "take" = some (some (.ref (A_f_take K)))) ∧
  (PySem.W.isFn K (.ref (A_f_take K)) = true) ∧
  (PySem.W.codeIn K (HH.fdO K (A_f_take K)).code "Reader.take" = true) ∧
  (PySem.W.keepIn K (.ref (A_f_take K)) = true) ∧
  (PySem.W.nsIn K mainGlobals "read_pattern" = some (some (.ref (A_f_read K)))) ∧
  (PySem.W.codeIn K (HH.fdO K (A_f_read K)).code "read_pattern" = true) ∧
  (PySem.W.keepIn K (.ref (A_f_read K)) = true) ∧
  (PySem.W.nsIn K mainGlobals "check_name" = some (some (.ref (A_f_name K)))) ∧
  (PySem.W.codeIn K (HH.fdO K (A_f_name K)).code "check_name" = true) ∧
  (PySem.W.keepIn K (.ref (A_f_name K)) = true) ∧
  (PySem.W.nsIn K mainGlobals "check_room" = some (some (.ref (A_f_roomC K)))) ∧
  (PySem.W.codeIn K (HH.fdO K (A_f_roomC K)).code "check_room" = true) ∧
  (PySem.W.keepIn K (.ref (A_f_roomC K)) = true) ∧
  (PySem.W.findIn K (.ref (A_C_B K)) "__len__" = some (some (.ref (A_f_blen K)))) ∧
  (PySem.W.isFn K (.ref (A_f_blen K)) = true) ∧
  (PySem.W.codeIn K (HH.fdO K (A_f_blen K)).code "Book.__len__" = true) ∧
  (PySem.W.keepIn K (.ref (A_f_blen K)) = true) ∧
  (PySem.W.findIn K (.ref (A_C_B K)) "__iter__" = some (some (.ref (A_f_biter K)))) ∧
  (PySem.W.isFn K (.ref (A_f_biter K)) = true)
abbrev EX3 (K : PySem.W.Frag) : Prop := (PySem.W.codeIn K (HH.fdO K (A_f_biter K)).code "Book.__iter__" = true) ∧
  (PySem.W.keepIn K (.ref (A_f_biter K)) = true) ∧
  (PySem.W.findIn K (.ref (A_C_B K)) "__contains__" = some (some (.ref (A_f_bin K)))) ∧
  (PySem.W.isFn K (.ref (A_f_bin K)) = true) ∧
  (PySem.W.codeIn K (HH.fdO K (A_f_bin K)).code "Book.__contains__" = true) ∧
  (PySem.W.keepIn K (.ref (A_f_bin K)) = true) ∧
  (PySem.W.findIn K (.ref (A_C_B K)) "__setitem__" = some (some (.ref (A_f_bset K)))) ∧
  (PySem.W.isFn K (.ref (A_f_bset K)) = true) ∧
  (PySem.W.codeIn K (HH.fdO K (A_f_bset K)).code "Book.__setitem__" = true) ∧
  (PySem.W.keepIn K (.ref (A_f_bset K)) = true) ∧
  (PySem.W.findIn K (.ref (A_C_B K)) "drop" = some (some (.ref (A_f_bdrop K)))) ∧
  (PySem.W.isFn K (.ref (A_f_bdrop K)) = true) ∧
  (PySem.W.codeIn K (HH.fdO K (A_f_bdrop K)).code "Book.drop" = true) ∧
  (PySem.W.keepIn K (.ref (A_f_bdrop K)) = true) ∧
  (PySem.W.findIn K (.ref (A_C_B K)) "written" = some (some (.ref (A_f_bwr K)))) ∧
  (PySem.W.isFn K (.ref (A_f_bwr K)) = true) ∧
  (PySem.W.codeIn K (HH.fdO K (A_f_bwr K)).code "Book.written" = true) ∧
  (PySem.W.keepIn K (.ref (A_f_bwr K)) = true) ∧
  (PySem.W.nsIn K mainGlobals "merged_books" = some (some (.ref (A_f_merged K)))) ∧
  (PySem.W.codeIn K (HH.fdO K (A_f_merged K)).code "merged_books" = true)
abbrev EX4 (K : PySem.W.Frag) : Prop := (PySem.W.keepIn K (.ref (A_f_merged K)) = true) ∧
  (PySem.W.nsIn K mainGlobals "_law_new" = some (some (.ref (A_f_new K)))) ∧
  (PySem.W.codeIn K (HH.fdO K (A_f_new K)).code "_law_new" = true) ∧
  (PySem.W.keepIn K (.ref (A_f_new K)) = true) ∧
  (PySem.W.nsIn K mainGlobals "_law_draw" = some (some (.ref (A_f_draw K)))) ∧
  (PySem.W.codeIn K (HH.fdO K (A_f_draw K)).code "_law_draw" = true) ∧
  (PySem.W.keepIn K (.ref (A_f_draw K)) = true) ∧
  (PySem.W.nsIn K mainGlobals "_law_same" = some (some (.ref (A_f_same K)))) ∧
  (PySem.W.codeIn K (HH.fdO K (A_f_same K)).code "_law_same" = true) ∧
  (PySem.W.keepIn K (.ref (A_f_same K)) = true) ∧
  (PySem.W.nsIn K mainGlobals "_law_letters" = some (some (.ref (A_f_letters K)))) ∧
  (PySem.W.codeIn K (HH.fdO K (A_f_letters K)).code "_law_letters" = true) ∧
  (PySem.W.keepIn K (.ref (A_f_letters K)) = true) ∧
  (PySem.W.nsIn K mainGlobals "_law_classes" = some (some (.ref (A_f_classes K)))) ∧
  (PySem.W.codeIn K (HH.fdO K (A_f_classes K)).code "_law_classes" = true) ∧
  (PySem.W.keepIn K (.ref (A_f_classes K)) = true) ∧
  (PySem.W.nsIn K mainGlobals "_law_book" = some (some (.ref (A_f_book K)))) ∧
  (PySem.W.codeIn K (HH.fdO K (A_f_book K)).code "_law_book" = true) ∧
  (PySem.W.keepIn K (.ref (A_f_book K)) = true) ∧
  (PySem.W.nsIn K mainGlobals "_law_lines" = some (some (.ref (A_f_lines K))))
abbrev EX5 (K : PySem.W.Frag) : Prop := (PySem.W.codeIn K (HH.fdO K (A_f_lines K)).code "_law_lines" = true) ∧
  (PySem.W.keepIn K (.ref (A_f_lines K)) = true) ∧
  (PySem.W.nsIn K mainGlobals "_law_text" = some (some (.ref (A_f_text K)))) ∧
  (PySem.W.codeIn K (HH.fdO K (A_f_text K)).code "_law_text" = true) ∧
  (PySem.W.keepIn K (.ref (A_f_text K)) = true) ∧
  (PySem.W.nsIn K mainGlobals "_law_told" = some (some (.ref (A_f_told K)))) ∧
  (PySem.W.codeIn K (HH.fdO K (A_f_told K)).code "_law_told" = true) ∧
  (PySem.W.keepIn K (.ref (A_f_told K)) = true) ∧
  (PySem.W.nsIn K mainGlobals "_law_changed" = some (some (.ref (A_f_chg K)))) ∧
  (PySem.W.codeIn K (HH.fdO K (A_f_chg K)).code "_law_changed" = true) ∧
  (PySem.W.keepIn K (.ref (A_f_chg K)) = true) ∧
  (PySem.W.nsIn K mainGlobals "_law_due" = some (some (.ref (A_f_due K)))) ∧
  (PySem.W.codeIn K (HH.fdO K (A_f_due K)).code "_law_due" = true) ∧
  (PySem.W.keepIn K (.ref (A_f_due K)) = true) ∧
  (PySem.W.nsIn K mainGlobals "_law_merged" = some (some (.ref (A_f_lm K)))) ∧
  (PySem.W.codeIn K (HH.fdO K (A_f_lm K)).code "_law_merged" = true) ∧
  (PySem.W.keepIn K (.ref (A_f_lm K)) = true) ∧
  (PySem.W.nsIn K mainGlobals "_law_ordered" = some (some (.ref (A_f_ord K)))) ∧
  (PySem.W.codeIn K (HH.fdO K (A_f_ord K)).code "_law_ordered" = true) ∧
  (PySem.W.keepIn K (.ref (A_f_ord K)) = true)
abbrev EX6 (K : PySem.W.Frag) : Prop := (PySem.W.nsIn K mainGlobals "_law_is" = some (some (.ref (A_f_is K)))) ∧
  (PySem.W.codeIn K (HH.fdO K (A_f_is K)).code "_law_is" = true) ∧
  (PySem.W.keepIn K (.ref (A_f_is K)) = true) ∧
  (PySem.W.nsIn K mainGlobals "_law_merges" = some (some (.ref (A_f_mrs K)))) ∧
  (PySem.W.codeIn K (HH.fdO K (A_f_mrs K)).code "_law_merges" = true) ∧
  (PySem.W.keepIn K (.ref (A_f_mrs K)) = true) ∧
  (PySem.W.nsIn K mainGlobals "_law_large" = some (some (.ref (A_f_lrg K)))) ∧
  (PySem.W.codeIn K (HH.fdO K (A_f_lrg K)).code "_law_large" = true) ∧
  (PySem.W.keepIn K (.ref (A_f_lrg K)) = true) ∧
  (PySem.W.nsIn K mainGlobals "_law_again" = some (some (.ref (A_f_agn K)))) ∧
  (PySem.W.codeIn K (HH.fdO K (A_f_agn K)).code "_law_again" = true) ∧
  (PySem.W.keepIn K (.ref (A_f_agn K)) = true) ∧
  (PySem.W.nsIn K mainGlobals "law" = some (some (.ref (A_f_law K)))) ∧
  (PySem.W.codeIn K (HH.fdO K (A_f_law K)).code "law" = true) ∧
  (PySem.W.keepIn K (.ref (A_f_law K)) = true) ∧
  (PySem.W.plainGet K (A_C_R K) Str.empty = true) ∧
  (PySem.W.hasDictIn K (A_C_R K) = true) ∧
  (PySem.W.plainOver K (A_C_R K) = true) ∧
  (PySem.W.findIn K (.ref (A_C_R K)) "__setattr__" = some (some (.builtin "object.__setattr__"))) ∧
  (PySem.W.makesIn K (A_C_R K) = true)
abbrev EX7 (K : PySem.W.Frag) : Prop := (PySem.W.keepIn K (.ref (A_C_R K)) = true) ∧
  (PySem.W.plainGet K (A_C_P K) Str.empty = true) ∧
  (PySem.W.hasDictIn K (A_C_P K) = true) ∧
  (PySem.W.plainOver K (A_C_P K) = true) ∧
  (PySem.W.findIn K (.ref (A_C_P K)) "__setattr__" = some (some (.builtin "object.__setattr__"))) ∧
  (PySem.W.makesIn K (A_C_P K) = true) ∧
  (PySem.W.keepIn K (.ref (A_C_P K)) = true) ∧
  (PySem.W.plainGet K (A_C_B K) Str.empty = true) ∧
  (PySem.W.hasDictIn K (A_C_B K) = true) ∧
  (PySem.W.plainOver K (A_C_B K) = true) ∧
  (PySem.W.findIn K (.ref (A_C_B K)) "__setattr__" = some (some (.builtin "object.__setattr__"))) ∧
  (PySem.W.makesIn K (A_C_B K) = true) ∧
  (PySem.W.keepIn K (.ref (A_C_B K)) = true) ∧
  (PySem.W.findIn K (.ref (A_C_R K)) "letters" = some none) ∧
  (PySem.W.findIn K (.ref (A_C_R K)) "rows" = some none) ∧
  (PySem.W.findIn K (.ref (A_C_R K)) "operands" = some none) ∧
  (PySem.W.findIn K (.ref (A_C_R K)) "waiting" = some none) ∧
  (PySem.W.findIn K (.ref (A_C_R K)) "ready" = some none) ∧
  (PySem.W.findIn K (.ref (A_C_P K)) "letters" = some none) ∧
  (PySem.W.findIn K (.ref (A_C_P K)) "rows" = some none)
abbrev EX8 (K : PySem.W.Frag) : Prop := (PySem.W.findIn K (.ref (A_C_B K)) "letters" = some none) ∧
  (PySem.W.findIn K (.ref (A_C_B K)) "texts" = some none) ∧
  (PySem.W.findIn K (.ref (A_C_B K)) "patterns" = some none) ∧
  (PySem.W.findIn K (.ref (A_C_B K)) "former_texts" = some none) ∧
  (PySem.W.findIn K (.ref (A_C_B K)) "former_patterns" = some none) ∧
  (PySem.W.findIn K (.ref (A_C_B K)) "_room" = some none) ∧
  (PySem.W.nsIn K mainGlobals "MOST_LETTERS" = some (some (.int 3 (HH.tokOf (PySem.W.nsIn K mainGlobals "MOST_LETTERS"))))) ∧
  (PySem.W.nsIn K mainGlobals "SMALL_words" = some (some (.str "abcdefghijklmnopqrstuvwxyz" (HH.tokOf (PySem.W.nsIn K mainGlobals "SMALL_words"))))) ∧
  (PySem.W.nsIn K mainGlobals "MOST_TEXT" = some (some (.int 200 (HH.tokOf (PySem.W.nsIn K mainGlobals "MOST_TEXT"))))) ∧
  (PySem.W.nsIn K mainGlobals "MOST_NAMES" = some (some (.int 100 (HH.tokOf (PySem.W.nsIn K mainGlobals "MOST_NAMES"))))) ∧
  (PySem.W.nsIn K mainGlobals "MOST_NAME" = some (some (.int 12 (HH.tokOf (PySem.W.nsIn K mainGlobals "MOST_NAME"))))) ∧
  (PySem.W.nsIn K mainGlobals "SMALL_books" = some (some (.str "abcdefghijklmnopqrstuvwxyz" (HH.tokOf (PySem.W.nsIn K mainGlobals "SMALL_books"))))) ∧
  (PySem.W.nsIn K mainGlobals "DIGITS" = some (some (.str "0123456789" (HH.tokOf (PySem.W.nsIn K mainGlobals "DIGITS"))))) ∧
  (PySem.W.findIn K (.ref (A_C_P K)) "MOST_ROWS" = some (some (.int 16000 (HH.tokOf (PySem.W.findIn K (.ref (A_C_P K)) "MOST_ROWS"))))) ∧
  (PySem.W.specialIn K (.int 16000 (HH.tokOf (PySem.W.findIn K (.ref (A_C_P K)) "MOST_ROWS"))) "__get__" = some none) ∧
  (PySem.W.nsIn K mainGlobals "len" = some none) ∧
  (PySem.W.nsIn K mainGlobals "int" = some none) ∧
  (PySem.W.nsIn K mainGlobals "range" = some none) ∧
  (PySem.W.nsIn K mainGlobals "tuple" = some none) ∧
  (PySem.W.nsIn K mainGlobals "sorted" = some none)
abbrev EX9 (K : PySem.W.Frag) : Prop := (PySem.W.nsIn K mainGlobals "enumerate" = some none) ∧
  (PySem.W.nsIn K mainGlobals "list" = some none) ∧
  (PySem.W.nsIn K mainGlobals "isinstance" = some none) ∧
  (PySem.W.nsIn K mainGlobals "bool" = some none) ∧
  (PySem.W.nsIn K mainGlobals "str" = some none) ∧
  (PySem.W.nsIn K mainGlobals "super" = some none) ∧
  (PySem.W.nsIn K mainGlobals "ValueError" = some none) ∧
  (PySem.W.nsIn K mainGlobals "iter" = some none) ∧
  (PySem.W.nsIn K mainGlobals "ToolError" = some (some (.ref (A_E_1 K)))) ∧
  (PySem.W.hasDictIn K (A_E_1 K) = true) ∧
  (PySem.W.typeIn K (.ref (A_E_1 K)) = some (.type "type")) ∧
  (PySem.W.subIn K (.ref (A_E_1 K)) (.type "BaseException") = some true) ∧
  (PySem.W.keepIn K (.ref (A_E_1 K)) = true) ∧
  (PySem.W.nsIn K mainGlobals "LettersError" = some (some (.ref (A_E_2 K)))) ∧
  (PySem.W.hasDictIn K (A_E_2 K) = true) ∧
  (PySem.W.typeIn K (.ref (A_E_2 K)) = some (.type "type")) ∧
  (PySem.W.subIn K (.ref (A_E_2 K)) (.type "BaseException") = some true) ∧
  (PySem.W.keepIn K (.ref (A_E_2 K)) = true) ∧
  (PySem.W.nsIn K mainGlobals "MixedLetters" = some (some (.ref (A_E_3 K)))) ∧
  (PySem.W.hasDictIn K (A_E_3 K) = true)
abbrev EX10 (K : PySem.W.Frag) : Prop := (PySem.W.typeIn K (.ref (A_E_3 K)) = some (.type "type")) ∧
  (PySem.W.subIn K (.ref (A_E_3 K)) (.type "BaseException") = some true) ∧
  (PySem.W.keepIn K (.ref (A_E_3 K)) = true) ∧
  (PySem.W.nsIn K mainGlobals "TableError" = some (some (.ref (A_E_4 K)))) ∧
  (PySem.W.hasDictIn K (A_E_4 K) = true) ∧
  (PySem.W.typeIn K (.ref (A_E_4 K)) = some (.type "type")) ∧
  (PySem.W.subIn K (.ref (A_E_4 K)) (.type "BaseException") = some true) ∧
  (PySem.W.keepIn K (.ref (A_E_4 K)) = true) ∧
  (PySem.W.nsIn K mainGlobals "ActionError" = some (some (.ref (A_E_5 K)))) ∧
  (PySem.W.hasDictIn K (A_E_5 K) = true) ∧
  (PySem.W.typeIn K (.ref (A_E_5 K)) = some (.type "type")) ∧
  (PySem.W.subIn K (.ref (A_E_5 K)) (.type "BaseException") = some true) ∧
  (PySem.W.keepIn K (.ref (A_E_5 K)) = true) ∧
  (PySem.W.nsIn K mainGlobals "LassoError" = some (some (.ref (A_E_6 K)))) ∧
  (PySem.W.hasDictIn K (A_E_6 K) = true) ∧
  (PySem.W.typeIn K (.ref (A_E_6 K)) = some (.type "type")) ∧
  (PySem.W.subIn K (.ref (A_E_6 K)) (.type "BaseException") = some true) ∧
  (PySem.W.keepIn K (.ref (A_E_6 K)) = true) ∧
  (PySem.W.nsIn K mainGlobals "LetterError" = some (some (.ref (A_E_7 K)))) ∧
  (PySem.W.hasDictIn K (A_E_7 K) = true)
abbrev EX11 (K : PySem.W.Frag) : Prop := (PySem.W.typeIn K (.ref (A_E_7 K)) = some (.type "type")) ∧
  (PySem.W.subIn K (.ref (A_E_7 K)) (.type "BaseException") = some true) ∧
  (PySem.W.keepIn K (.ref (A_E_7 K)) = true) ∧
  (PySem.W.nsIn K mainGlobals "StateError" = some (some (.ref (A_E_8 K)))) ∧
  (PySem.W.hasDictIn K (A_E_8 K) = true) ∧
  (PySem.W.typeIn K (.ref (A_E_8 K)) = some (.type "type")) ∧
  (PySem.W.subIn K (.ref (A_E_8 K)) (.type "BaseException") = some true) ∧
  (PySem.W.keepIn K (.ref (A_E_8 K)) = true) ∧
  (PySem.W.nsIn K mainGlobals "RowError" = some (some (.ref (A_E_9 K)))) ∧
  (PySem.W.hasDictIn K (A_E_9 K) = true) ∧
  (PySem.W.typeIn K (.ref (A_E_9 K)) = some (.type "type")) ∧
  (PySem.W.subIn K (.ref (A_E_9 K)) (.type "BaseException") = some true) ∧
  (PySem.W.keepIn K (.ref (A_E_9 K)) = true) ∧
  (PySem.W.nsIn K mainGlobals "NotStarFree" = some (some (.ref (A_E_10 K)))) ∧
  (PySem.W.hasDictIn K (A_E_10 K) = true) ∧
  (PySem.W.typeIn K (.ref (A_E_10 K)) = some (.type "type")) ∧
  (PySem.W.subIn K (.ref (A_E_10 K)) (.type "BaseException") = some true) ∧
  (PySem.W.keepIn K (.ref (A_E_10 K)) = true) ∧
  (PySem.W.nsIn K mainGlobals "TextError" = some (some (.ref (A_E_11 K)))) ∧
  (PySem.W.hasDictIn K (A_E_11 K) = true)
abbrev EX12 (K : PySem.W.Frag) : Prop := (PySem.W.typeIn K (.ref (A_E_11 K)) = some (.type "type")) ∧
  (PySem.W.subIn K (.ref (A_E_11 K)) (.type "BaseException") = some true) ∧
  (PySem.W.keepIn K (.ref (A_E_11 K)) = true) ∧
  (PySem.W.nsIn K mainGlobals "NameFault" = some (some (.ref (A_E_12 K)))) ∧
  (PySem.W.hasDictIn K (A_E_12 K) = true) ∧
  (PySem.W.typeIn K (.ref (A_E_12 K)) = some (.type "type")) ∧
  (PySem.W.subIn K (.ref (A_E_12 K)) (.type "BaseException") = some true) ∧
  (PySem.W.keepIn K (.ref (A_E_12 K)) = true) ∧
  (PySem.W.nsIn K mainGlobals "LineError" = some (some (.ref (A_E_13 K)))) ∧
  (PySem.W.hasDictIn K (A_E_13 K) = true) ∧
  (PySem.W.typeIn K (.ref (A_E_13 K)) = some (.type "type")) ∧
  (PySem.W.subIn K (.ref (A_E_13 K)) (.type "BaseException") = some true) ∧
  (PySem.W.keepIn K (.ref (A_E_13 K)) = true) ∧
  (PySem.W.nsIn K mainGlobals "CountsError" = some (some (.ref (A_E_14 K)))) ∧
  (PySem.W.hasDictIn K (A_E_14 K) = true) ∧
  (PySem.W.typeIn K (.ref (A_E_14 K)) = some (.type "type")) ∧
  (PySem.W.subIn K (.ref (A_E_14 K)) (.type "BaseException") = some true) ∧
  (PySem.W.keepIn K (.ref (A_E_14 K)) = true) ∧
  (PySem.W.nsIn K mainGlobals "LimitError" = some (some (.ref (A_E_15 K)))) ∧
  (PySem.W.hasDictIn K (A_E_15 K) = true)
abbrev EX13 (K : PySem.W.Frag) : Prop := (PySem.W.typeIn K (.ref (A_E_15 K)) = some (.type "type")) ∧
  (PySem.W.subIn K (.ref (A_E_15 K)) (.type "BaseException") = some true) ∧
  (PySem.W.keepIn K (.ref (A_E_15 K)) = true) ∧
  (PySem.W.nsIn K mainGlobals "TooManyStates" = some (some (.ref (A_E_16 K)))) ∧
  (PySem.W.hasDictIn K (A_E_16 K) = true) ∧
  (PySem.W.typeIn K (.ref (A_E_16 K)) = some (.type "type")) ∧
  (PySem.W.subIn K (.ref (A_E_16 K)) (.type "BaseException") = some true) ∧
  (PySem.W.keepIn K (.ref (A_E_16 K)) = true) ∧
  (PySem.W.nsIn K mainGlobals "TooManyActions" = some (some (.ref (A_E_17 K)))) ∧
  (PySem.W.hasDictIn K (A_E_17 K) = true) ∧
  (PySem.W.typeIn K (.ref (A_E_17 K)) = some (.type "type")) ∧
  (PySem.W.subIn K (.ref (A_E_17 K)) (.type "BaseException") = some true) ∧
  (PySem.W.keepIn K (.ref (A_E_17 K)) = true) ∧
  (PySem.W.nsIn K mainGlobals "TooManyRows" = some (some (.ref (A_E_18 K)))) ∧
  (PySem.W.hasDictIn K (A_E_18 K) = true) ∧
  (PySem.W.typeIn K (.ref (A_E_18 K)) = some (.type "type")) ∧
  (PySem.W.subIn K (.ref (A_E_18 K)) (.type "BaseException") = some true) ∧
  (PySem.W.keepIn K (.ref (A_E_18 K)) = true) ∧
  (PySem.W.nsIn K mainGlobals "ClashError" = some (some (.ref (A_E_19 K)))) ∧
  (PySem.W.hasDictIn K (A_E_19 K) = true)
abbrev EX14 (K : PySem.W.Frag) : Prop := (PySem.W.typeIn K (.ref (A_E_19 K)) = some (.type "type")) ∧
  (PySem.W.subIn K (.ref (A_E_19 K)) (.type "BaseException") = some true) ∧
  (PySem.W.keepIn K (.ref (A_E_19 K)) = true) ∧
  (PySem.W.subIn K (.ref (A_E_3 K)) (.ref (A_E_1 K)) = some true) ∧
  (PySem.W.subIn K (.ref (A_E_3 K)) (.ref (A_E_2 K)) = some false) ∧
  (PySem.W.subIn K (.ref (A_E_3 K)) (.ref (A_E_3 K)) = some true) ∧
  (PySem.W.subIn K (.ref (A_E_3 K)) (.ref (A_E_4 K)) = some false) ∧
  (PySem.W.subIn K (.ref (A_E_3 K)) (.ref (A_E_5 K)) = some false) ∧
  (PySem.W.subIn K (.ref (A_E_3 K)) (.ref (A_E_6 K)) = some false) ∧
  (PySem.W.subIn K (.ref (A_E_3 K)) (.ref (A_E_7 K)) = some false) ∧
  (PySem.W.subIn K (.ref (A_E_3 K)) (.ref (A_E_8 K)) = some false) ∧
  (PySem.W.subIn K (.ref (A_E_3 K)) (.ref (A_E_9 K)) = some false) ∧
  (PySem.W.subIn K (.ref (A_E_3 K)) (.ref (A_E_10 K)) = some false) ∧
  (PySem.W.subIn K (.ref (A_E_3 K)) (.ref (A_E_11 K)) = some false) ∧
  (PySem.W.subIn K (.ref (A_E_3 K)) (.ref (A_E_12 K)) = some false) ∧
  (PySem.W.subIn K (.ref (A_E_3 K)) (.ref (A_E_13 K)) = some false) ∧
  (PySem.W.subIn K (.ref (A_E_3 K)) (.ref (A_E_14 K)) = some false) ∧
  (PySem.W.subIn K (.ref (A_E_3 K)) (.ref (A_E_15 K)) = some false) ∧
  (PySem.W.subIn K (.ref (A_E_3 K)) (.ref (A_E_16 K)) = some false) ∧
  (PySem.W.subIn K (.ref (A_E_3 K)) (.ref (A_E_17 K)) = some false)
abbrev EX15 (K : PySem.W.Frag) : Prop := (PySem.W.subIn K (.ref (A_E_3 K)) (.ref (A_E_18 K)) = some false) ∧
  (PySem.W.subIn K (.ref (A_E_3 K)) (.ref (A_E_19 K)) = some false) ∧
  (PySem.W.subIn K (.ref (A_E_3 K)) (.type "ValueError") = some true) ∧
  (PySem.W.findIn K (.ref (A_E_3 K)) "__getattribute__" = some (some (.builtin "BaseException.__getattribute__"))) ∧
  (PySem.W.findIn K (.ref (A_E_3 K)) "__getattr__" = some none) ∧
  (PySem.W.findIn K (.ref (A_E_3 K)) "__class__" = some (some (.builtin "object.__class__"))) ∧
  (PySem.W.mroIn K (A_E_3 K) (.type "object") = some true) ∧
  (PySem.W.subIn K (.ref (A_E_11 K)) (.ref (A_E_1 K)) = some true) ∧
  (PySem.W.subIn K (.ref (A_E_11 K)) (.ref (A_E_2 K)) = some false) ∧
  (PySem.W.subIn K (.ref (A_E_11 K)) (.ref (A_E_3 K)) = some false) ∧
  (PySem.W.subIn K (.ref (A_E_11 K)) (.ref (A_E_4 K)) = some false) ∧
  (PySem.W.subIn K (.ref (A_E_11 K)) (.ref (A_E_5 K)) = some false) ∧
  (PySem.W.subIn K (.ref (A_E_11 K)) (.ref (A_E_6 K)) = some false) ∧
  (PySem.W.subIn K (.ref (A_E_11 K)) (.ref (A_E_7 K)) = some false) ∧
  (PySem.W.subIn K (.ref (A_E_11 K)) (.ref (A_E_8 K)) = some false) ∧
  (PySem.W.subIn K (.ref (A_E_11 K)) (.ref (A_E_9 K)) = some false) ∧
  (PySem.W.subIn K (.ref (A_E_11 K)) (.ref (A_E_10 K)) = some false) ∧
  (PySem.W.subIn K (.ref (A_E_11 K)) (.ref (A_E_11 K)) = some true) ∧
  (PySem.W.subIn K (.ref (A_E_11 K)) (.ref (A_E_12 K)) = some false) ∧
  (PySem.W.subIn K (.ref (A_E_11 K)) (.ref (A_E_13 K)) = some false)
abbrev EX16 (K : PySem.W.Frag) : Prop := (PySem.W.subIn K (.ref (A_E_11 K)) (.ref (A_E_14 K)) = some false) ∧
  (PySem.W.subIn K (.ref (A_E_11 K)) (.ref (A_E_15 K)) = some false) ∧
  (PySem.W.subIn K (.ref (A_E_11 K)) (.ref (A_E_16 K)) = some false) ∧
  (PySem.W.subIn K (.ref (A_E_11 K)) (.ref (A_E_17 K)) = some false) ∧
  (PySem.W.subIn K (.ref (A_E_11 K)) (.ref (A_E_18 K)) = some false) ∧
  (PySem.W.subIn K (.ref (A_E_11 K)) (.ref (A_E_19 K)) = some false) ∧
  (PySem.W.subIn K (.ref (A_E_11 K)) (.type "ValueError") = some true) ∧
  (PySem.W.findIn K (.ref (A_E_11 K)) "__getattribute__" = some (some (.builtin "BaseException.__getattribute__"))) ∧
  (PySem.W.findIn K (.ref (A_E_11 K)) "__getattr__" = some none) ∧
  (PySem.W.findIn K (.ref (A_E_11 K)) "__class__" = some (some (.builtin "object.__class__"))) ∧
  (PySem.W.mroIn K (A_E_11 K) (.type "object") = some true) ∧
  (PySem.W.subIn K (.ref (A_E_12 K)) (.ref (A_E_1 K)) = some true) ∧
  (PySem.W.subIn K (.ref (A_E_12 K)) (.ref (A_E_2 K)) = some false) ∧
  (PySem.W.subIn K (.ref (A_E_12 K)) (.ref (A_E_3 K)) = some false) ∧
  (PySem.W.subIn K (.ref (A_E_12 K)) (.ref (A_E_4 K)) = some false) ∧
  (PySem.W.subIn K (.ref (A_E_12 K)) (.ref (A_E_5 K)) = some false) ∧
  (PySem.W.subIn K (.ref (A_E_12 K)) (.ref (A_E_6 K)) = some false) ∧
  (PySem.W.subIn K (.ref (A_E_12 K)) (.ref (A_E_7 K)) = some false) ∧
  (PySem.W.subIn K (.ref (A_E_12 K)) (.ref (A_E_8 K)) = some false) ∧
  (PySem.W.subIn K (.ref (A_E_12 K)) (.ref (A_E_9 K)) = some false)
abbrev EX17 (K : PySem.W.Frag) : Prop := (PySem.W.subIn K (.ref (A_E_12 K)) (.ref (A_E_10 K)) = some false) ∧
  (PySem.W.subIn K (.ref (A_E_12 K)) (.ref (A_E_11 K)) = some false) ∧
  (PySem.W.subIn K (.ref (A_E_12 K)) (.ref (A_E_12 K)) = some true) ∧
  (PySem.W.subIn K (.ref (A_E_12 K)) (.ref (A_E_13 K)) = some false) ∧
  (PySem.W.subIn K (.ref (A_E_12 K)) (.ref (A_E_14 K)) = some false) ∧
  (PySem.W.subIn K (.ref (A_E_12 K)) (.ref (A_E_15 K)) = some false) ∧
  (PySem.W.subIn K (.ref (A_E_12 K)) (.ref (A_E_16 K)) = some false) ∧
  (PySem.W.subIn K (.ref (A_E_12 K)) (.ref (A_E_17 K)) = some false) ∧
  (PySem.W.subIn K (.ref (A_E_12 K)) (.ref (A_E_18 K)) = some false) ∧
  (PySem.W.subIn K (.ref (A_E_12 K)) (.ref (A_E_19 K)) = some false) ∧
  (PySem.W.subIn K (.ref (A_E_12 K)) (.type "ValueError") = some true) ∧
  (PySem.W.findIn K (.ref (A_E_12 K)) "__getattribute__" = some (some (.builtin "BaseException.__getattribute__"))) ∧
  (PySem.W.findIn K (.ref (A_E_12 K)) "__getattr__" = some none) ∧
  (PySem.W.findIn K (.ref (A_E_12 K)) "__class__" = some (some (.builtin "object.__class__"))) ∧
  (PySem.W.mroIn K (A_E_12 K) (.type "object") = some true) ∧
  (PySem.W.subIn K (.ref (A_E_15 K)) (.ref (A_E_1 K)) = some true) ∧
  (PySem.W.subIn K (.ref (A_E_15 K)) (.ref (A_E_2 K)) = some false) ∧
  (PySem.W.subIn K (.ref (A_E_15 K)) (.ref (A_E_3 K)) = some false) ∧
  (PySem.W.subIn K (.ref (A_E_15 K)) (.ref (A_E_4 K)) = some false) ∧
  (PySem.W.subIn K (.ref (A_E_15 K)) (.ref (A_E_5 K)) = some false)
abbrev EX18 (K : PySem.W.Frag) : Prop := (PySem.W.subIn K (.ref (A_E_15 K)) (.ref (A_E_6 K)) = some false) ∧
  (PySem.W.subIn K (.ref (A_E_15 K)) (.ref (A_E_7 K)) = some false) ∧
  (PySem.W.subIn K (.ref (A_E_15 K)) (.ref (A_E_8 K)) = some false) ∧
  (PySem.W.subIn K (.ref (A_E_15 K)) (.ref (A_E_9 K)) = some false) ∧
  (PySem.W.subIn K (.ref (A_E_15 K)) (.ref (A_E_10 K)) = some false) ∧
  (PySem.W.subIn K (.ref (A_E_15 K)) (.ref (A_E_11 K)) = some false) ∧
  (PySem.W.subIn K (.ref (A_E_15 K)) (.ref (A_E_12 K)) = some false) ∧
  (PySem.W.subIn K (.ref (A_E_15 K)) (.ref (A_E_13 K)) = some false) ∧
  (PySem.W.subIn K (.ref (A_E_15 K)) (.ref (A_E_14 K)) = some false) ∧
  (PySem.W.subIn K (.ref (A_E_15 K)) (.ref (A_E_15 K)) = some true) ∧
  (PySem.W.subIn K (.ref (A_E_15 K)) (.ref (A_E_16 K)) = some false) ∧
  (PySem.W.subIn K (.ref (A_E_15 K)) (.ref (A_E_17 K)) = some false) ∧
  (PySem.W.subIn K (.ref (A_E_15 K)) (.ref (A_E_18 K)) = some false) ∧
  (PySem.W.subIn K (.ref (A_E_15 K)) (.ref (A_E_19 K)) = some false) ∧
  (PySem.W.subIn K (.ref (A_E_15 K)) (.type "ValueError") = some true) ∧
  (PySem.W.findIn K (.ref (A_E_15 K)) "__getattribute__" = some (some (.builtin "BaseException.__getattribute__"))) ∧
  (PySem.W.findIn K (.ref (A_E_15 K)) "__getattr__" = some none) ∧
  (PySem.W.findIn K (.ref (A_E_15 K)) "__class__" = some (some (.builtin "object.__class__"))) ∧
  (PySem.W.mroIn K (A_E_15 K) (.type "object") = some true) ∧
  (PySem.W.subIn K (.ref (A_E_19 K)) (.ref (A_E_1 K)) = some true)
abbrev EX19 (K : PySem.W.Frag) : Prop := (PySem.W.subIn K (.ref (A_E_19 K)) (.ref (A_E_2 K)) = some false) ∧
  (PySem.W.subIn K (.ref (A_E_19 K)) (.ref (A_E_3 K)) = some false) ∧
  (PySem.W.subIn K (.ref (A_E_19 K)) (.ref (A_E_4 K)) = some false) ∧
  (PySem.W.subIn K (.ref (A_E_19 K)) (.ref (A_E_5 K)) = some false) ∧
  (PySem.W.subIn K (.ref (A_E_19 K)) (.ref (A_E_6 K)) = some false) ∧
  (PySem.W.subIn K (.ref (A_E_19 K)) (.ref (A_E_7 K)) = some false) ∧
  (PySem.W.subIn K (.ref (A_E_19 K)) (.ref (A_E_8 K)) = some false) ∧
  (PySem.W.subIn K (.ref (A_E_19 K)) (.ref (A_E_9 K)) = some false) ∧
  (PySem.W.subIn K (.ref (A_E_19 K)) (.ref (A_E_10 K)) = some false) ∧
  (PySem.W.subIn K (.ref (A_E_19 K)) (.ref (A_E_11 K)) = some false) ∧
  (PySem.W.subIn K (.ref (A_E_19 K)) (.ref (A_E_12 K)) = some false) ∧
  (PySem.W.subIn K (.ref (A_E_19 K)) (.ref (A_E_13 K)) = some false) ∧
  (PySem.W.subIn K (.ref (A_E_19 K)) (.ref (A_E_14 K)) = some false) ∧
  (PySem.W.subIn K (.ref (A_E_19 K)) (.ref (A_E_15 K)) = some false) ∧
  (PySem.W.subIn K (.ref (A_E_19 K)) (.ref (A_E_16 K)) = some false) ∧
  (PySem.W.subIn K (.ref (A_E_19 K)) (.ref (A_E_17 K)) = some false) ∧
  (PySem.W.subIn K (.ref (A_E_19 K)) (.ref (A_E_18 K)) = some false) ∧
  (PySem.W.subIn K (.ref (A_E_19 K)) (.ref (A_E_19 K)) = some true) ∧
  (PySem.W.subIn K (.ref (A_E_19 K)) (.type "ValueError") = some true) ∧
  (PySem.W.findIn K (.ref (A_E_19 K)) "__getattribute__" = some (some (.builtin "BaseException.__getattribute__")))
abbrev EX20 (K : PySem.W.Frag) : Prop := (PySem.W.findIn K (.ref (A_E_19 K)) "__getattr__" = some none) ∧
  (PySem.W.findIn K (.ref (A_E_19 K)) "__class__" = some (some (.builtin "object.__class__"))) ∧
  (PySem.W.mroIn K (A_E_19 K) (.type "object") = some true) ∧
  (PySem.W.specialIn K (.builtin "object.__class__") "__get__" = some (some (.builtin "getset_descriptor.__get__"))) ∧
  (PySem.W.takesIn K (.builtin "object.__class__") = some true) ∧
  (HH.isXc K (A_E_11 K) "ValueError.__new__" = true) ∧
  (HandSPX.refsVE (HH.cdO K (A_E_11 K)).mro.tail = true) ∧
  (PySem.W.findIn K (.ref (A_E_11 K)) "__setattr__" = some (some (.builtin "object.__setattr__"))) ∧
  (PySem.W.findIn K (.ref (A_E_11 K)) "index" = some none) ∧
  (PySem.W.findIn K (.ref (A_E_11 K)) "__init__" = some (some (.ref (A_I_11 K)))) ∧
  (PySem.W.typeIn K (.ref (A_I_11 K)) = some (.type "function")) ∧
  ((HH.fdO K (A_I_11 K)).kwdefaults = .none) ∧
  ((HH.fdO K (A_I_11 K)).code = .ref (A_cda_11 K)) ∧
  (PySem.W.codeIn K (.ref (A_cda_11 K)) "TextError.__init__" = true) ∧
  (HH.isFs K (A_cda_11 K) = true) ∧
  ((HH.fsO K (A_cda_11 K))[2]? = some (.str "/claim/cut.py" (HH.tokV (((HH.fsO K (A_cda_11 K))[2]?).getD .none)))) ∧
  (HH.isCell K (HH.ccO K (A_I_11 K)) (A_E_11 K) = true) ∧
  ((PySem.W.clsIn K (A_E_11 K)).isSome = true) ∧
  (PySem.W.mroIn K (A_E_11 K) (.ref (A_E_11 K)) = some true) ∧
  (PySem.W.ks_superIn K (A_E_11 K) (A_E_11 K) "__init__" = some (some (.builtin "ValueError.__init__")))
abbrev EX21 (K : PySem.W.Frag) : Prop := (HH.isXc K (A_E_12 K) "ValueError.__new__" = true) ∧
  (HandSPX.refsVE (HH.cdO K (A_E_12 K)).mro.tail = true) ∧
  (PySem.W.findIn K (.ref (A_E_12 K)) "__setattr__" = some (some (.builtin "object.__setattr__"))) ∧
  (PySem.W.findIn K (.ref (A_E_12 K)) "name" = some none) ∧
  (PySem.W.findIn K (.ref (A_E_12 K)) "__init__" = some (some (.ref (A_I_12 K)))) ∧
  (PySem.W.typeIn K (.ref (A_I_12 K)) = some (.type "function")) ∧
  ((HH.fdO K (A_I_12 K)).kwdefaults = .none) ∧
  ((HH.fdO K (A_I_12 K)).code = .ref (A_cda_12 K)) ∧
  (PySem.W.codeIn K (.ref (A_cda_12 K)) "NameFault.__init__" = true) ∧
  (HH.isFs K (A_cda_12 K) = true) ∧
  ((HH.fsO K (A_cda_12 K))[2]? = some (.str "/claim/cut.py" (HH.tokV (((HH.fsO K (A_cda_12 K))[2]?).getD .none)))) ∧
  (HH.isCell K (HH.ccO K (A_I_12 K)) (A_E_12 K) = true) ∧
  ((PySem.W.clsIn K (A_E_12 K)).isSome = true) ∧
  (PySem.W.mroIn K (A_E_12 K) (.ref (A_E_12 K)) = some true) ∧
  (PySem.W.ks_superIn K (A_E_12 K) (A_E_12 K) "__init__" = some (some (.builtin "ValueError.__init__"))) ∧
  (HH.isXc K (A_E_15 K) "ValueError.__new__" = true) ∧
  (HandSPX.refsVE (HH.cdO K (A_E_15 K)).mro.tail = true) ∧
  (PySem.W.findIn K (.ref (A_E_15 K)) "__setattr__" = some (some (.builtin "object.__setattr__"))) ∧
  (PySem.W.findIn K (.ref (A_E_15 K)) "limit" = some none) ∧
  (PySem.W.findIn K (.ref (A_E_15 K)) "__init__" = some (some (.ref (A_I_15 K))))
abbrev EX22 (K : PySem.W.Frag) : Prop := (PySem.W.typeIn K (.ref (A_I_15 K)) = some (.type "function")) ∧
  ((HH.fdO K (A_I_15 K)).kwdefaults = .none) ∧
  ((HH.fdO K (A_I_15 K)).code = .ref (A_cda_15 K)) ∧
  (PySem.W.codeIn K (.ref (A_cda_15 K)) "LimitError.__init__" = true) ∧
  (HH.isFs K (A_cda_15 K) = true) ∧
  ((HH.fsO K (A_cda_15 K))[2]? = some (.str "/claim/cut.py" (HH.tokV (((HH.fsO K (A_cda_15 K))[2]?).getD .none)))) ∧
  (HH.isCell K (HH.ccO K (A_I_15 K)) (A_E_15 K) = true) ∧
  ((PySem.W.clsIn K (A_E_15 K)).isSome = true) ∧
  (PySem.W.mroIn K (A_E_15 K) (.ref (A_E_15 K)) = some true) ∧
  (PySem.W.ks_superIn K (A_E_15 K) (A_E_15 K) "__init__" = some (some (.builtin "ValueError.__init__"))) ∧
  (HH.isXc K (A_E_19 K) "ValueError.__new__" = true) ∧
  (HandSPX.refsVE (HH.cdO K (A_E_19 K)).mro.tail = true) ∧
  (PySem.W.findIn K (.ref (A_E_19 K)) "__setattr__" = some (some (.builtin "object.__setattr__"))) ∧
  (PySem.W.findIn K (.ref (A_E_19 K)) "names" = some none) ∧
  (PySem.W.findIn K (.ref (A_E_19 K)) "__init__" = some (some (.ref (A_I_19 K)))) ∧
  (PySem.W.typeIn K (.ref (A_I_19 K)) = some (.type "function")) ∧
  ((HH.fdO K (A_I_19 K)).kwdefaults = .none) ∧
  ((HH.fdO K (A_I_19 K)).code = .ref (A_cda_19 K)) ∧
  (PySem.W.codeIn K (.ref (A_cda_19 K)) "ClashError.__init__" = true) ∧
  (HH.isFs K (A_cda_19 K) = true)
abbrev EX23 (K : PySem.W.Frag) : Prop := ((HH.fsO K (A_cda_19 K))[2]? = some (.str "/claim/cut.py" (HH.tokV (((HH.fsO K (A_cda_19 K))[2]?).getD .none)))) ∧
  (HH.isCell K (HH.ccO K (A_I_19 K)) (A_E_19 K) = true) ∧
  ((PySem.W.clsIn K (A_E_19 K)).isSome = true) ∧
  (PySem.W.mroIn K (A_E_19 K) (.ref (A_E_19 K)) = some true) ∧
  (PySem.W.ks_superIn K (A_E_19 K) (A_E_19 K) "__init__" = some (some (.builtin "ValueError.__init__"))) ∧
  (PySem.W.nsIn K cStatics "thirdparty.any" = some none) ∧
  (PySem.W.excIn K (A_E_3 K) [.type "ValueError", .type "Exception", .type "BaseException", .type "object"] "ValueError.__new__" = true) ∧
  (PySem.W.nsIn K mainGlobals "BINDING" = some (some (.ref (A_D_B K)))) ∧
  (PySem.W.nsIn K mainGlobals "PARTS" = some (some (.ref (A_D_P K)))) ∧
  (PySem.W.nsIn K (A_D_B K) "(" = some (some (.int 0 (HH.tokOf (PySem.W.nsIn K (A_D_B K) "("))))) ∧
  (PySem.W.nsIn K (A_D_B K) "|" = some (some (.int 1 (HH.tokOf (PySem.W.nsIn K (A_D_B K) "|"))))) ∧
  (PySem.W.nsIn K (A_D_B K) "&" = some (some (.int 2 (HH.tokOf (PySem.W.nsIn K (A_D_B K) "&"))))) ∧
  (PySem.W.nsIn K (A_D_B K) "+" = some (some (.int 3 (HH.tokOf (PySem.W.nsIn K (A_D_B K) "+"))))) ∧
  (PySem.W.nsIn K (A_D_B K) "~" = some (some (.int 4 (HH.tokOf (PySem.W.nsIn K (A_D_B K) "~"))))) ∧
  (PySem.W.nsIn K (A_D_P K) "empty" = some (some (.int 0 (HH.tokOf (PySem.W.nsIn K (A_D_P K) "empty"))))) ∧
  (PySem.W.nsIn K (A_D_P K) "not" = some (some (.int 1 (HH.tokOf (PySem.W.nsIn K (A_D_P K) "not"))))) ∧
  (PySem.W.nsIn K (A_D_P K) "again" = some (some (.int 1 (HH.tokOf (PySem.W.nsIn K (A_D_P K) "again"))))) ∧
  (PySem.W.nsIn K (A_D_P K) "then" = some (some (.int 2 (HH.tokOf (PySem.W.nsIn K (A_D_P K) "then"))))) ∧
  (PySem.W.findIn K (.ref (A_C_B K)) "__init__" = some (some (.ref (A_f_bi K)))) ∧
  (PySem.W.isFn K (.ref (A_f_bi K)) = true)
abbrev EX24 (K : PySem.W.Frag) : Prop := ((HH.fdO K (A_f_bi K)).defaults = .ref (A_dt_bi K)) ∧
  (PySem.W.codeIn K (HH.fdO K (A_f_bi K)).code "Book.__init__" = true) ∧
  (PySem.W.keepIn K (.ref (A_f_bi K)) = true) ∧
  (HH.isSq K (A_dt_bi K) = true) ∧
  (HH.sqO K (A_dt_bi K) = #[.int 20 (HH.tokV (((HH.sqO K (A_dt_bi K))[0]?).getD .none))]) ∧
  (PySem.W.findIn K (.ref (A_C_B K)) "room" = some (some (.ref (A_p_rm K)))) ∧
  (PySem.W.specialIn K (.ref (A_p_rm K)) "__get__" = some (some (.builtin "property.__get__"))) ∧
  (PySem.W.takesIn K (.ref (A_p_rm K)) = some true) ∧
  (PySem.W.recIn K (A_p_rm K) "property" = some (.ref (A_g_rm K) :: (HH.tlOf (PySem.W.recIn K (A_p_rm K) "property")))) ∧
  (PySem.W.codeIn K (HH.fdO K (A_g_rm K)).code "Book.room" = true) ∧
  (PySem.W.keepIn K (.ref (A_g_rm K)) = true) ∧
  (PySem.W.specialIn K (.ref (A_f_put K)) "__get__" = some (some (.builtin "function.__get__"))) ∧
  (PySem.W.takesIn K (.ref (A_f_put K)) = some false) ∧
  (PySem.W.fnIn K (A_f_put K) = true) ∧
  (PySem.W.noSeq K (A_C_B K) = true) ∧
  (PySem.W.findIn K (.ref (A_C_B K)) "__class__" = some (some (.builtin "object.__class__"))) ∧
  (PySem.W.mroIn K (A_C_B K) (.type "object") = some true) ∧
  (PySem.W.typeIn K (.ref (A_C_B K)) = some (.type "type")) ∧
  (PySem.W.subIn K (.ref (A_C_B K)) (.ref (A_C_B K)) = some true)
def ex (K : PySem.W.Frag) : Bool := decide (EX0 K) && (decide (EX1 K) && (decide (EX2 K) && (decide (EX3 K) && (decide (EX4 K) && (decide (EX5 K) && (decide (EX6 K) && (decide (EX7 K) && (decide (EX8 K) && (decide (EX9 K) && (decide (EX10 K) && (decide (EX11 K) && (decide (EX12 K) && (decide (EX13 K) && (decide (EX14 K) && (decide (EX15 K) && (decide (EX16 K) && (decide (EX17 K) && (decide (EX18 K) && (decide (EX19 K) && (decide (EX20 K) && (decide (EX21 K) && (decide (EX22 K) && (decide (EX23 K) && (decide (EX24 K)))))))))))))))))))))))))
def fs (K : PySem.W.Frag) : List Addr := (A_f_checkL K) :: (A_f_fits K) :: (A_f_pinit K) :: (A_f_rinit K) :: (A_f_put K) :: (A_f_comb K) :: (A_f_down K) :: (A_f_wait K) :: (A_f_beg K) :: (A_f_close K) :: (A_f_take K) :: (A_f_read K) :: (A_f_name K) :: (A_f_roomC K) :: (A_f_blen K) :: (A_f_biter K) :: (A_f_bin K) :: (A_f_bset K) :: (A_f_bdrop K) :: (A_f_bwr K) ::
  (A_f_merged K) :: (A_f_new K) :: (A_f_draw K) :: (A_f_same K) :: (A_f_letters K) :: (A_f_classes K) :: (A_f_book K) :: (A_f_lines K) :: (A_f_text K) :: (A_f_told K) :: (A_f_chg K) :: (A_f_due K) :: (A_f_lm K) :: (A_f_ord K) :: (A_f_is K) :: (A_f_mrs K) :: (A_f_lrg K) :: (A_f_agn K) :: (A_f_law K) :: (A_I_11 K) ::
  (A_I_12 K) :: (A_I_15 K) :: (A_I_19 K) :: (A_f_bi K) :: (A_g_rm K) ::
  []
def vs : List HH.FnN := (HH.rowN "check_letters" "check_letters" sCheckL [] true) :: (HH.rowN "fits" "fits" sFits [] true) :: (HH.rowN "__init__" "Pattern.__init__" sPInit [] true) :: (HH.rowN "__init__" "Reader.__init__" sRInit [] true) :: (HH.rowN "put" "Reader.put" sPut [] true) :: (HH.rowN "combine" "Reader.combine" sCombine [] true) :: (HH.rowN "combine_down_to" "Reader.combine_down_to" sDown [] true) :: (HH.rowN "wait" "Reader.wait" sWait [] true) :: (HH.rowN "begin" "Reader.begin" sBegin [] true) :: (HH.rowN "close" "Reader.close" sClose [] true) :: (HH.rowN "take" "Reader.take" sTake [] true) :: (HH.rowN "read_pattern" "read_pattern" sRead [] true) :: (HH.rowN "check_name" "check_name" sName [] true) :: (HH.rowN "check_room" "check_room" sRoomC [] true) :: (HH.rowN "__len__" "Book.__len__" sBLen [] true) :: (HH.rowN "__iter__" "Book.__iter__" sBIter [] true) :: (HH.rowN "__contains__" "Book.__contains__" sBIn [] true) :: (HH.rowN "__setitem__" "Book.__setitem__" sBSet [] true) :: (HH.rowN "drop" "Book.drop" sBDrop [] true) :: (HH.rowN "written" "Book.written" sBWritten [] true) ::
  (HH.rowN "merged_books" "merged_books" sMerged [] true) :: (HH.rowN "_law_new" "_law_new" sNew [] true) :: (HH.rowN "_law_draw" "_law_draw" sDraw [] true) :: (HH.rowN "_law_same" "_law_same" sSame [] true) :: (HH.rowN "_law_letters" "_law_letters" sLetters [] true) :: (HH.rowN "_law_classes" "_law_classes" sClasses [] true) :: (HH.rowN "_law_book" "_law_book" sBook [] true) :: (HH.rowN "_law_lines" "_law_lines" sLines [] true) :: (HH.rowN "_law_text" "_law_text" sText [] true) :: (HH.rowN "_law_told" "_law_told" sTold [] true) :: (HH.rowN "_law_changed" "_law_changed" sChanged [] true) :: (HH.rowN "_law_due" "_law_due" sDue [] true) :: (HH.rowN "_law_merged" "_law_merged" sLMerged [] true) :: (HH.rowN "_law_ordered" "_law_ordered" sOrd [] true) :: (HH.rowN "_law_is" "_law_is" sIs [] true) :: (HH.rowN "_law_merges" "_law_merges" sMrs [] true) :: (HH.rowN "_law_large" "_law_large" sLrg [] true) :: (HH.rowN "_law_again" "_law_again" sAgn [] true) :: (HH.rowN "law" "law" sLaw [] true) :: (HH.rowN "__init__" "TextError.__init__" sXi_11 ["__class__"] true) ::
  (HH.rowN "__init__" "NameFault.__init__" sXi_12 ["__class__"] true) :: (HH.rowN "__init__" "LimitError.__init__" sXi_15 ["__class__"] true) :: (HH.rowN "__init__" "ClashError.__init__" sXi_19 ["__class__"] true) :: (HH.rowN "__init__" "Book.__init__" sBInit [] false) :: (HH.rowN "room" "Book.room" sBRoom [] true) ::
  []
def ts : List He.Tab := [(A_D_B, ["(", "|", "&", "+", "~"]), (A_D_P, ["empty", "not", "again", "then"])]
abbrev roots0 : List PySem.Str := ["Reader", "Pattern", "Book", "check_letters", "fits", "read_pattern", "check_name", "check_room", "merged_books", "_law_new", "_law_draw", "_law_same", "_law_letters", "_law_classes", "_law_book", "_law_lines", "_law_text", "_law_told", "_law_changed", "_law_due"]
abbrev roots1 : List PySem.Str := ["_law_merged", "_law_ordered", "_law_is", "_law_merges", "_law_large", "_law_again", "law", "ToolError", "LettersError", "MixedLetters", "TableError", "ActionError", "LassoError", "LetterError", "StateError", "RowError", "NotStarFree", "TextError", "NameFault", "LineError"]
abbrev roots2 : List PySem.Str := ["CountsError", "LimitError", "TooManyStates", "TooManyActions", "TooManyRows", "ClashError", "BINDING", "PARTS"]
abbrev roots : List PySem.Str := List.append roots0 (List.append roots1 (roots2))
abbrev loose0 : List PySem.Str := ["_wall", "__name__", "ToolError", "LettersError", "LetterError", "MixedLetters", "StateError", "TableError", "RowError", "NotStarFree", "TextError", "NameFault", "LineError", "ClashError", "ActionError", "LassoError", "LimitError", "TooManyStates", "TooManyActions", "TooManyRows"]
abbrev loose1 : List PySem.Str := ["CountsError", "__name__", "MOST_LETTERS", "SMALL_words", "check_letters", "check_word", "__name__", "joined", "chained", "repeated", "row_spans", "all_spans", "__name__", "MOST_TIMES", "PARTS", "fits", "shifted", "word_rows", "Pattern", "same_letters"]
abbrev loose2 : List PySem.Str := ["as_pattern", "times_pattern", "__name__", "MOST_TEXT", "BINDING", "Reader", "read_pattern", "__name__", "MOST_NAMES", "MOST_NAME", "SMALL_books", "DIGITS", "check_name", "Book", "check_room", "__name__", "merged_books", "__name__", "_law_new", "_law_draw"]
abbrev loose3 : List PySem.Str := ["_law_same", "_law_letters", "_law_classes", "_law_book", "_law_lines", "_law_text", "_law_told", "_law_changed", "_law_due", "_law_merged", "_law_ordered", "_law_is", "_law_merges", "_law_large", "_law_again"]
abbrev loose : List PySem.Str := List.append loose0 (List.append loose1 (List.append loose2 (loose3)))
abbrev R : PySem.W.OpenRow := PySem.W.OpenLaw.row PySem.Challenge.rw_turtlestold_k89_merged_books
abbrev hk : PySem.W.Hook := HH.hookH fs ts ex roots vs
def obs (s : PySem.W.SharedT) : HH.AlH := HH.obsH fs ts ex roots (HandSHeadRun.getT s)
theorem obs_eq (s : PySem.W.SharedT) : obs s = hk.obs s.abs := HH.obsH_eq fs ts ex (HandSHeadRun.getT_eq s)
theorem run_f (w : World) : HandSHeadRun.RunEq R (PySem.W.view R.prog [75]) hk obs 10000 loose (w.withFollow "special-get-raises" false) := by
  intro os
  kernel_rfl
theorem run_t (w : World) : HandSHeadRun.RunEq R (PySem.W.view R.prog [75]) hk obs 10000 loose (w.withFollow "special-get-raises" true) := by
  intro os
  kernel_rfl
theorem run (w : World) : HandSHeadRun.RunEq R (PySem.W.view R.prog [75]) hk obs 10000 loose w := PySem.W.byRow2 "special-get-raises" run_f run_t w
end W8

set_option Elab.async false
set_option linter.all false
set_option maxRecDepth 100000
set_option maxHeartbeats 0
namespace W8
open PySem PySem.Spec PyProof.Rows L2 L2E
theorem facts {w : World} {K : PySem.W.Frag} {h : Heap} {mg : Str → Option Value} {fa : Addr} (X : K.In h) (G : h.Ns mainGlobals mg) (hfa : mg "law" = some (.ref fa)) (c : HH.obsK fs ts ex K = HH.valH ts vs w) :
    ∃ fd : FuncData, (∀ (s : Shared) (v : Value), BindsTo s fd ⟨[v], []⟩ [("script", v)]) ∧ ∀ base : Heap, K.In base → base.Ns mainGlobals mg → FnOk PySem.Challenge.pw_turtlestold_k89_merged_books w K mg base CX0 13 fa fd ["script"] (spLaw K) := by
  have e := HH.says_ex c
  have e0 : EX0 K := of_decide_eq_true (He.ba e).1
  replace e := (He.ba e).2
  have e1 : EX1 K := of_decide_eq_true (He.ba e).1
  replace e := (He.ba e).2
  have e2 : EX2 K := of_decide_eq_true (He.ba e).1
  replace e := (He.ba e).2
  have e3 : EX3 K := of_decide_eq_true (He.ba e).1
  replace e := (He.ba e).2
  have e4 : EX4 K := of_decide_eq_true (He.ba e).1
  replace e := (He.ba e).2
  have e5 : EX5 K := of_decide_eq_true (He.ba e).1
  replace e := (He.ba e).2
  have e6 : EX6 K := of_decide_eq_true (He.ba e).1
  replace e := (He.ba e).2
  have e7 : EX7 K := of_decide_eq_true (He.ba e).1
  replace e := (He.ba e).2
  have e8 : EX8 K := of_decide_eq_true (He.ba e).1
  replace e := (He.ba e).2
  have e9 : EX9 K := of_decide_eq_true (He.ba e).1
  replace e := (He.ba e).2
  have e10 : EX10 K := of_decide_eq_true (He.ba e).1
  replace e := (He.ba e).2
  have e11 : EX11 K := of_decide_eq_true (He.ba e).1
  replace e := (He.ba e).2
  have e12 : EX12 K := of_decide_eq_true (He.ba e).1
  replace e := (He.ba e).2
  have e13 : EX13 K := of_decide_eq_true (He.ba e).1
  replace e := (He.ba e).2
  have e14 : EX14 K := of_decide_eq_true (He.ba e).1
  replace e := (He.ba e).2
  have e15 : EX15 K := of_decide_eq_true (He.ba e).1
  replace e := (He.ba e).2
  have e16 : EX16 K := of_decide_eq_true (He.ba e).1
  replace e := (He.ba e).2
  have e17 : EX17 K := of_decide_eq_true (He.ba e).1
  replace e := (He.ba e).2
  have e18 : EX18 K := of_decide_eq_true (He.ba e).1
  replace e := (He.ba e).2
  have e19 : EX19 K := of_decide_eq_true (He.ba e).1
  replace e := (He.ba e).2
  have e20 : EX20 K := of_decide_eq_true (He.ba e).1
  replace e := (He.ba e).2
  have e21 : EX21 K := of_decide_eq_true (He.ba e).1
  replace e := (He.ba e).2
  have e22 : EX22 K := of_decide_eq_true (He.ba e).1
  replace e := (He.ba e).2
  have e23 : EX23 K := of_decide_eq_true (He.ba e).1
  replace e := (He.ba e).2
  have e24 : EX24 K := of_decide_eq_true e
  clear e
  obtain ⟨es_B, n_B, kd_D_B⟩ := HH.says_tab c 0
  obtain ⟨es_P, n_P, kd_D_P⟩ := HH.says_tab c 1
  exact all_mk (l := PySem.Challenge.rw_turtlestold_k89_merged_books) (w := w) X G hfa
    e0.1
    e0.2.1
    e0.2.2.1
    e0.2.2.2.1
    (HH.fn_l (st := sCheckL) (HH.says_fn c 0))
    e0.2.2.2.2.1
    e0.2.2.2.2.2.1
    e0.2.2.2.2.2.2.1
    (HH.fn_l (st := sFits) (HH.says_fn c 1))
    e0.2.2.2.2.2.2.2.1
    e0.2.2.2.2.2.2.2.2.1
    e0.2.2.2.2.2.2.2.2.2.1
    e0.2.2.2.2.2.2.2.2.2.2.1
    (HH.fn_l (st := sPInit) (HH.says_fn c 2))
    e0.2.2.2.2.2.2.2.2.2.2.2.1
    e0.2.2.2.2.2.2.2.2.2.2.2.2.1
    e0.2.2.2.2.2.2.2.2.2.2.2.2.2.1
    e0.2.2.2.2.2.2.2.2.2.2.2.2.2.2.1
    (HH.fn_l (st := sRInit) (HH.says_fn c 3))
    e0.2.2.2.2.2.2.2.2.2.2.2.2.2.2.2.1
    e0.2.2.2.2.2.2.2.2.2.2.2.2.2.2.2.2.1
    e0.2.2.2.2.2.2.2.2.2.2.2.2.2.2.2.2.2.1
    e0.2.2.2.2.2.2.2.2.2.2.2.2.2.2.2.2.2.2.1
    (HH.fn_l (st := sPut) (HH.says_fn c 4))
    e0.2.2.2.2.2.2.2.2.2.2.2.2.2.2.2.2.2.2.2
    e1.1
    e1.2.1
    e1.2.2.1
    (HH.fn_l (st := sCombine) (HH.says_fn c 5))
    e1.2.2.2.1
    e1.2.2.2.2.1
    e1.2.2.2.2.2.1
    e1.2.2.2.2.2.2.1
    (HH.fn_l (st := sDown) (HH.says_fn c 6))
    e1.2.2.2.2.2.2.2.1
    e1.2.2.2.2.2.2.2.2.1
    e1.2.2.2.2.2.2.2.2.2.1
    e1.2.2.2.2.2.2.2.2.2.2.1
    (HH.fn_l (st := sWait) (HH.says_fn c 7))
    e1.2.2.2.2.2.2.2.2.2.2.2.1
    e1.2.2.2.2.2.2.2.2.2.2.2.2.1
    e1.2.2.2.2.2.2.2.2.2.2.2.2.2.1
    e1.2.2.2.2.2.2.2.2.2.2.2.2.2.2.1
    (HH.fn_l (st := sBegin) (HH.says_fn c 8))
    e1.2.2.2.2.2.2.2.2.2.2.2.2.2.2.2.1
    e1.2.2.2.2.2.2.2.2.2.2.2.2.2.2.2.2.1
    e1.2.2.2.2.2.2.2.2.2.2.2.2.2.2.2.2.2.1
    e1.2.2.2.2.2.2.2.2.2.2.2.2.2.2.2.2.2.2.1
    (HH.fn_l (st := sClose) (HH.says_fn c 9))
    e1.2.2.2.2.2.2.2.2.2.2.2.2.2.2.2.2.2.2.2
    e2.1
    e2.2.1
    e2.2.2.1
    (HH.fn_l (st := sTake) (HH.says_fn c 10))
    e2.2.2.2.1
    e2.2.2.2.2.1
    e2.2.2.2.2.2.1
    (HH.fn_l (st := sRead) (HH.says_fn c 11))
    e2.2.2.2.2.2.2.1
    e2.2.2.2.2.2.2.2.1
    e2.2.2.2.2.2.2.2.2.1
    (HH.fn_l (st := sName) (HH.says_fn c 12))
    e2.2.2.2.2.2.2.2.2.2.1
    e2.2.2.2.2.2.2.2.2.2.2.1
    e2.2.2.2.2.2.2.2.2.2.2.2.1
    (HH.fn_l (st := sRoomC) (HH.says_fn c 13))
    e2.2.2.2.2.2.2.2.2.2.2.2.2.1
    e2.2.2.2.2.2.2.2.2.2.2.2.2.2.1
    e2.2.2.2.2.2.2.2.2.2.2.2.2.2.2.1
    e2.2.2.2.2.2.2.2.2.2.2.2.2.2.2.2.1
    (HH.fn_l (st := sBLen) (HH.says_fn c 14))
    e2.2.2.2.2.2.2.2.2.2.2.2.2.2.2.2.2.1
    e2.2.2.2.2.2.2.2.2.2.2.2.2.2.2.2.2.2.1
    e2.2.2.2.2.2.2.2.2.2.2.2.2.2.2.2.2.2.2.1
    e2.2.2.2.2.2.2.2.2.2.2.2.2.2.2.2.2.2.2.2
    (HH.fn_l (st := sBIter) (HH.says_fn c 15))
    e3.1
    e3.2.1
    e3.2.2.1
    e3.2.2.2.1
    (HH.fn_l (st := sBIn) (HH.says_fn c 16))
    e3.2.2.2.2.1
    e3.2.2.2.2.2.1
    e3.2.2.2.2.2.2.1
    e3.2.2.2.2.2.2.2.1
    (HH.fn_l (st := sBSet) (HH.says_fn c 17))
    e3.2.2.2.2.2.2.2.2.1
    e3.2.2.2.2.2.2.2.2.2.1
    e3.2.2.2.2.2.2.2.2.2.2.1
    e3.2.2.2.2.2.2.2.2.2.2.2.1
    (HH.fn_l (st := sBDrop) (HH.says_fn c 18))
    e3.2.2.2.2.2.2.2.2.2.2.2.2.1
    e3.2.2.2.2.2.2.2.2.2.2.2.2.2.1
    e3.2.2.2.2.2.2.2.2.2.2.2.2.2.2.1
    e3.2.2.2.2.2.2.2.2.2.2.2.2.2.2.2.1
    (HH.fn_l (st := sBWritten) (HH.says_fn c 19))
    e3.2.2.2.2.2.2.2.2.2.2.2.2.2.2.2.2.1
    e3.2.2.2.2.2.2.2.2.2.2.2.2.2.2.2.2.2.1
    e3.2.2.2.2.2.2.2.2.2.2.2.2.2.2.2.2.2.2.1
    (HH.fn_l (st := sMerged) (HH.says_fn c 20))
    e3.2.2.2.2.2.2.2.2.2.2.2.2.2.2.2.2.2.2.2
    e4.1
    e4.2.1
    (HH.fn_l (st := sNew) (HH.says_fn c 21))
    e4.2.2.1
    e4.2.2.2.1
    e4.2.2.2.2.1
    (HH.fn_l (st := sDraw) (HH.says_fn c 22))
    e4.2.2.2.2.2.1
    e4.2.2.2.2.2.2.1
    e4.2.2.2.2.2.2.2.1
    (HH.fn_l (st := sSame) (HH.says_fn c 23))
    e4.2.2.2.2.2.2.2.2.1
    e4.2.2.2.2.2.2.2.2.2.1
    e4.2.2.2.2.2.2.2.2.2.2.1
    (HH.fn_l (st := sLetters) (HH.says_fn c 24))
    e4.2.2.2.2.2.2.2.2.2.2.2.1
    e4.2.2.2.2.2.2.2.2.2.2.2.2.1
    e4.2.2.2.2.2.2.2.2.2.2.2.2.2.1
    (HH.fn_l (st := sClasses) (HH.says_fn c 25))
    e4.2.2.2.2.2.2.2.2.2.2.2.2.2.2.1
    e4.2.2.2.2.2.2.2.2.2.2.2.2.2.2.2.1
    e4.2.2.2.2.2.2.2.2.2.2.2.2.2.2.2.2.1
    (HH.fn_l (st := sBook) (HH.says_fn c 26))
    e4.2.2.2.2.2.2.2.2.2.2.2.2.2.2.2.2.2.1
    e4.2.2.2.2.2.2.2.2.2.2.2.2.2.2.2.2.2.2.1
    e4.2.2.2.2.2.2.2.2.2.2.2.2.2.2.2.2.2.2.2
    (HH.fn_l (st := sLines) (HH.says_fn c 27))
    e5.1
    e5.2.1
    e5.2.2.1
    (HH.fn_l (st := sText) (HH.says_fn c 28))
    e5.2.2.2.1
    e5.2.2.2.2.1
    e5.2.2.2.2.2.1
    (HH.fn_l (st := sTold) (HH.says_fn c 29))
    e5.2.2.2.2.2.2.1
    e5.2.2.2.2.2.2.2.1
    e5.2.2.2.2.2.2.2.2.1
    (HH.fn_l (st := sChanged) (HH.says_fn c 30))
    e5.2.2.2.2.2.2.2.2.2.1
    e5.2.2.2.2.2.2.2.2.2.2.1
    e5.2.2.2.2.2.2.2.2.2.2.2.1
    (HH.fn_l (st := sDue) (HH.says_fn c 31))
    e5.2.2.2.2.2.2.2.2.2.2.2.2.1
    e5.2.2.2.2.2.2.2.2.2.2.2.2.2.1
    e5.2.2.2.2.2.2.2.2.2.2.2.2.2.2.1
    (HH.fn_l (st := sLMerged) (HH.says_fn c 32))
    e5.2.2.2.2.2.2.2.2.2.2.2.2.2.2.2.1
    e5.2.2.2.2.2.2.2.2.2.2.2.2.2.2.2.2.1
    e5.2.2.2.2.2.2.2.2.2.2.2.2.2.2.2.2.2.1
    (HH.fn_l (st := sOrd) (HH.says_fn c 33))
    e5.2.2.2.2.2.2.2.2.2.2.2.2.2.2.2.2.2.2.1
    e5.2.2.2.2.2.2.2.2.2.2.2.2.2.2.2.2.2.2.2
    e6.1
    (HH.fn_l (st := sIs) (HH.says_fn c 34))
    e6.2.1
    e6.2.2.1
    e6.2.2.2.1
    (HH.fn_l (st := sMrs) (HH.says_fn c 35))
    e6.2.2.2.2.1
    e6.2.2.2.2.2.1
    e6.2.2.2.2.2.2.1
    (HH.fn_l (st := sLrg) (HH.says_fn c 36))
    e6.2.2.2.2.2.2.2.1
    e6.2.2.2.2.2.2.2.2.1
    e6.2.2.2.2.2.2.2.2.2.1
    (HH.fn_l (st := sAgn) (HH.says_fn c 37))
    e6.2.2.2.2.2.2.2.2.2.2.1
    e6.2.2.2.2.2.2.2.2.2.2.2.1
    e6.2.2.2.2.2.2.2.2.2.2.2.2.1
    (HH.fn_l (st := sLaw) (HH.says_fn c 38))
    e6.2.2.2.2.2.2.2.2.2.2.2.2.2.1
    e6.2.2.2.2.2.2.2.2.2.2.2.2.2.2.1
    e6.2.2.2.2.2.2.2.2.2.2.2.2.2.2.2.1
    e6.2.2.2.2.2.2.2.2.2.2.2.2.2.2.2.2.1
    e6.2.2.2.2.2.2.2.2.2.2.2.2.2.2.2.2.2.1
    e6.2.2.2.2.2.2.2.2.2.2.2.2.2.2.2.2.2.2.1
    e6.2.2.2.2.2.2.2.2.2.2.2.2.2.2.2.2.2.2.2
    e7.1
    e7.2.1
    e7.2.2.1
    e7.2.2.2.1
    e7.2.2.2.2.1
    e7.2.2.2.2.2.1
    e7.2.2.2.2.2.2.1
    e7.2.2.2.2.2.2.2.1
    e7.2.2.2.2.2.2.2.2.1
    e7.2.2.2.2.2.2.2.2.2.1
    e7.2.2.2.2.2.2.2.2.2.2.1
    e7.2.2.2.2.2.2.2.2.2.2.2.1
    e7.2.2.2.2.2.2.2.2.2.2.2.2.1
    e7.2.2.2.2.2.2.2.2.2.2.2.2.2.1
    e7.2.2.2.2.2.2.2.2.2.2.2.2.2.2.1
    e7.2.2.2.2.2.2.2.2.2.2.2.2.2.2.2.1
    e7.2.2.2.2.2.2.2.2.2.2.2.2.2.2.2.2.1
    e7.2.2.2.2.2.2.2.2.2.2.2.2.2.2.2.2.2.1
    e7.2.2.2.2.2.2.2.2.2.2.2.2.2.2.2.2.2.2.1
    e7.2.2.2.2.2.2.2.2.2.2.2.2.2.2.2.2.2.2.2
    e8.1
    e8.2.1
    e8.2.2.1
    e8.2.2.2.1
    e8.2.2.2.2.1
    e8.2.2.2.2.2.1
    e8.2.2.2.2.2.2.1
    e8.2.2.2.2.2.2.2.1
    e8.2.2.2.2.2.2.2.2.1
    e8.2.2.2.2.2.2.2.2.2.1
    e8.2.2.2.2.2.2.2.2.2.2.1
    e8.2.2.2.2.2.2.2.2.2.2.2.1
    e8.2.2.2.2.2.2.2.2.2.2.2.2.1
    e8.2.2.2.2.2.2.2.2.2.2.2.2.2.1
    e8.2.2.2.2.2.2.2.2.2.2.2.2.2.2.1
    e8.2.2.2.2.2.2.2.2.2.2.2.2.2.2.2.1
    e8.2.2.2.2.2.2.2.2.2.2.2.2.2.2.2.2.1
    e8.2.2.2.2.2.2.2.2.2.2.2.2.2.2.2.2.2.1
    e8.2.2.2.2.2.2.2.2.2.2.2.2.2.2.2.2.2.2.1
    e8.2.2.2.2.2.2.2.2.2.2.2.2.2.2.2.2.2.2.2
    e9.1
    e9.2.1
    e9.2.2.1
    e9.2.2.2.1
    e9.2.2.2.2.1
    e9.2.2.2.2.2.1
    e9.2.2.2.2.2.2.1
    e9.2.2.2.2.2.2.2.1
    e9.2.2.2.2.2.2.2.2.1
    e9.2.2.2.2.2.2.2.2.2.1
    e9.2.2.2.2.2.2.2.2.2.2.1
    e9.2.2.2.2.2.2.2.2.2.2.2.1
    e9.2.2.2.2.2.2.2.2.2.2.2.2.1
    e9.2.2.2.2.2.2.2.2.2.2.2.2.2.1
    e9.2.2.2.2.2.2.2.2.2.2.2.2.2.2.1
    e9.2.2.2.2.2.2.2.2.2.2.2.2.2.2.2.1
    e9.2.2.2.2.2.2.2.2.2.2.2.2.2.2.2.2.1
    e9.2.2.2.2.2.2.2.2.2.2.2.2.2.2.2.2.2.1
    e9.2.2.2.2.2.2.2.2.2.2.2.2.2.2.2.2.2.2.1
    e9.2.2.2.2.2.2.2.2.2.2.2.2.2.2.2.2.2.2.2
    e10.1
    e10.2.1
    e10.2.2.1
    e10.2.2.2.1
    e10.2.2.2.2.1
    e10.2.2.2.2.2.1
    e10.2.2.2.2.2.2.1
    e10.2.2.2.2.2.2.2.1
    e10.2.2.2.2.2.2.2.2.1
    e10.2.2.2.2.2.2.2.2.2.1
    e10.2.2.2.2.2.2.2.2.2.2.1
    e10.2.2.2.2.2.2.2.2.2.2.2.1
    e10.2.2.2.2.2.2.2.2.2.2.2.2.1
    e10.2.2.2.2.2.2.2.2.2.2.2.2.2.1
    e10.2.2.2.2.2.2.2.2.2.2.2.2.2.2.1
    e10.2.2.2.2.2.2.2.2.2.2.2.2.2.2.2.1
    e10.2.2.2.2.2.2.2.2.2.2.2.2.2.2.2.2.1
    e10.2.2.2.2.2.2.2.2.2.2.2.2.2.2.2.2.2.1
    e10.2.2.2.2.2.2.2.2.2.2.2.2.2.2.2.2.2.2.1
    e10.2.2.2.2.2.2.2.2.2.2.2.2.2.2.2.2.2.2.2
    e11.1
    e11.2.1
    e11.2.2.1
    e11.2.2.2.1
    e11.2.2.2.2.1
    e11.2.2.2.2.2.1
    e11.2.2.2.2.2.2.1
    e11.2.2.2.2.2.2.2.1
    e11.2.2.2.2.2.2.2.2.1
    e11.2.2.2.2.2.2.2.2.2.1
    e11.2.2.2.2.2.2.2.2.2.2.1
    e11.2.2.2.2.2.2.2.2.2.2.2.1
    e11.2.2.2.2.2.2.2.2.2.2.2.2.1
    e11.2.2.2.2.2.2.2.2.2.2.2.2.2.1
    e11.2.2.2.2.2.2.2.2.2.2.2.2.2.2.1
    e11.2.2.2.2.2.2.2.2.2.2.2.2.2.2.2.1
    e11.2.2.2.2.2.2.2.2.2.2.2.2.2.2.2.2.1
    e11.2.2.2.2.2.2.2.2.2.2.2.2.2.2.2.2.2.1
    e11.2.2.2.2.2.2.2.2.2.2.2.2.2.2.2.2.2.2.1
    e11.2.2.2.2.2.2.2.2.2.2.2.2.2.2.2.2.2.2.2
    e12.1
    e12.2.1
    e12.2.2.1
    e12.2.2.2.1
    e12.2.2.2.2.1
    e12.2.2.2.2.2.1
    e12.2.2.2.2.2.2.1
    e12.2.2.2.2.2.2.2.1
    e12.2.2.2.2.2.2.2.2.1
    e12.2.2.2.2.2.2.2.2.2.1
    e12.2.2.2.2.2.2.2.2.2.2.1
    e12.2.2.2.2.2.2.2.2.2.2.2.1
    e12.2.2.2.2.2.2.2.2.2.2.2.2.1
    e12.2.2.2.2.2.2.2.2.2.2.2.2.2.1
    e12.2.2.2.2.2.2.2.2.2.2.2.2.2.2.1
    e12.2.2.2.2.2.2.2.2.2.2.2.2.2.2.2.1
    e12.2.2.2.2.2.2.2.2.2.2.2.2.2.2.2.2.1
    e12.2.2.2.2.2.2.2.2.2.2.2.2.2.2.2.2.2.1
    e12.2.2.2.2.2.2.2.2.2.2.2.2.2.2.2.2.2.2.1
    e12.2.2.2.2.2.2.2.2.2.2.2.2.2.2.2.2.2.2.2
    e13.1
    e13.2.1
    e13.2.2.1
    e13.2.2.2.1
    e13.2.2.2.2.1
    e13.2.2.2.2.2.1
    e13.2.2.2.2.2.2.1
    e13.2.2.2.2.2.2.2.1
    e13.2.2.2.2.2.2.2.2.1
    e13.2.2.2.2.2.2.2.2.2.1
    e13.2.2.2.2.2.2.2.2.2.2.1
    e13.2.2.2.2.2.2.2.2.2.2.2.1
    e13.2.2.2.2.2.2.2.2.2.2.2.2.1
    e13.2.2.2.2.2.2.2.2.2.2.2.2.2.1
    e13.2.2.2.2.2.2.2.2.2.2.2.2.2.2.1
    e13.2.2.2.2.2.2.2.2.2.2.2.2.2.2.2.1
    e13.2.2.2.2.2.2.2.2.2.2.2.2.2.2.2.2.1
    e13.2.2.2.2.2.2.2.2.2.2.2.2.2.2.2.2.2.1
    e13.2.2.2.2.2.2.2.2.2.2.2.2.2.2.2.2.2.2.1
    e13.2.2.2.2.2.2.2.2.2.2.2.2.2.2.2.2.2.2.2
    e14.1
    e14.2.1
    e14.2.2.1
    e14.2.2.2.1
    e14.2.2.2.2.1
    e14.2.2.2.2.2.1
    e14.2.2.2.2.2.2.1
    e14.2.2.2.2.2.2.2.1
    e14.2.2.2.2.2.2.2.2.1
    e14.2.2.2.2.2.2.2.2.2.1
    e14.2.2.2.2.2.2.2.2.2.2.1
    e14.2.2.2.2.2.2.2.2.2.2.2.1
    e14.2.2.2.2.2.2.2.2.2.2.2.2.1
    e14.2.2.2.2.2.2.2.2.2.2.2.2.2.1
    e14.2.2.2.2.2.2.2.2.2.2.2.2.2.2.1
    e14.2.2.2.2.2.2.2.2.2.2.2.2.2.2.2.1
    e14.2.2.2.2.2.2.2.2.2.2.2.2.2.2.2.2.1
    e14.2.2.2.2.2.2.2.2.2.2.2.2.2.2.2.2.2.1
    e14.2.2.2.2.2.2.2.2.2.2.2.2.2.2.2.2.2.2.1
    e14.2.2.2.2.2.2.2.2.2.2.2.2.2.2.2.2.2.2.2
    e15.1
    e15.2.1
    e15.2.2.1
    e15.2.2.2.1
    e15.2.2.2.2.1
    e15.2.2.2.2.2.1
    e15.2.2.2.2.2.2.1
    e15.2.2.2.2.2.2.2.1
    e15.2.2.2.2.2.2.2.2.1
    e15.2.2.2.2.2.2.2.2.2.1
    e15.2.2.2.2.2.2.2.2.2.2.1
    e15.2.2.2.2.2.2.2.2.2.2.2.1
    e15.2.2.2.2.2.2.2.2.2.2.2.2.1
    e15.2.2.2.2.2.2.2.2.2.2.2.2.2.1
    e15.2.2.2.2.2.2.2.2.2.2.2.2.2.2.1
    e15.2.2.2.2.2.2.2.2.2.2.2.2.2.2.2.1
    e15.2.2.2.2.2.2.2.2.2.2.2.2.2.2.2.2.1
    e15.2.2.2.2.2.2.2.2.2.2.2.2.2.2.2.2.2.1
    e15.2.2.2.2.2.2.2.2.2.2.2.2.2.2.2.2.2.2.1
    e15.2.2.2.2.2.2.2.2.2.2.2.2.2.2.2.2.2.2.2
    e16.1
    e16.2.1
    e16.2.2.1
    e16.2.2.2.1
    e16.2.2.2.2.1
    e16.2.2.2.2.2.1
    e16.2.2.2.2.2.2.1
    e16.2.2.2.2.2.2.2.1
    e16.2.2.2.2.2.2.2.2.1
    e16.2.2.2.2.2.2.2.2.2.1
    e16.2.2.2.2.2.2.2.2.2.2.1
    e16.2.2.2.2.2.2.2.2.2.2.2.1
    e16.2.2.2.2.2.2.2.2.2.2.2.2.1
    e16.2.2.2.2.2.2.2.2.2.2.2.2.2.1
    e16.2.2.2.2.2.2.2.2.2.2.2.2.2.2.1
    e16.2.2.2.2.2.2.2.2.2.2.2.2.2.2.2.1
    e16.2.2.2.2.2.2.2.2.2.2.2.2.2.2.2.2.1
    e16.2.2.2.2.2.2.2.2.2.2.2.2.2.2.2.2.2.1
    e16.2.2.2.2.2.2.2.2.2.2.2.2.2.2.2.2.2.2.1
    e16.2.2.2.2.2.2.2.2.2.2.2.2.2.2.2.2.2.2.2
    e17.1
    e17.2.1
    e17.2.2.1
    e17.2.2.2.1
    e17.2.2.2.2.1
    e17.2.2.2.2.2.1
    e17.2.2.2.2.2.2.1
    e17.2.2.2.2.2.2.2.1
    e17.2.2.2.2.2.2.2.2.1
    e17.2.2.2.2.2.2.2.2.2.1
    e17.2.2.2.2.2.2.2.2.2.2.1
    e17.2.2.2.2.2.2.2.2.2.2.2.1
    e17.2.2.2.2.2.2.2.2.2.2.2.2.1
    e17.2.2.2.2.2.2.2.2.2.2.2.2.2.1
    e17.2.2.2.2.2.2.2.2.2.2.2.2.2.2.1
    e17.2.2.2.2.2.2.2.2.2.2.2.2.2.2.2.1
    e17.2.2.2.2.2.2.2.2.2.2.2.2.2.2.2.2.1
    e17.2.2.2.2.2.2.2.2.2.2.2.2.2.2.2.2.2.1
    e17.2.2.2.2.2.2.2.2.2.2.2.2.2.2.2.2.2.2.1
    e17.2.2.2.2.2.2.2.2.2.2.2.2.2.2.2.2.2.2.2
    e18.1
    e18.2.1
    e18.2.2.1
    e18.2.2.2.1
    e18.2.2.2.2.1
    e18.2.2.2.2.2.1
    e18.2.2.2.2.2.2.1
    e18.2.2.2.2.2.2.2.1
    e18.2.2.2.2.2.2.2.2.1
    e18.2.2.2.2.2.2.2.2.2.1
    e18.2.2.2.2.2.2.2.2.2.2.1
    e18.2.2.2.2.2.2.2.2.2.2.2.1
    e18.2.2.2.2.2.2.2.2.2.2.2.2.1
    e18.2.2.2.2.2.2.2.2.2.2.2.2.2.1
    e18.2.2.2.2.2.2.2.2.2.2.2.2.2.2.1
    e18.2.2.2.2.2.2.2.2.2.2.2.2.2.2.2.1
    e18.2.2.2.2.2.2.2.2.2.2.2.2.2.2.2.2.1
    e18.2.2.2.2.2.2.2.2.2.2.2.2.2.2.2.2.2.1
    e18.2.2.2.2.2.2.2.2.2.2.2.2.2.2.2.2.2.2.1
    e18.2.2.2.2.2.2.2.2.2.2.2.2.2.2.2.2.2.2.2
    e19.1
    e19.2.1
    e19.2.2.1
    e19.2.2.2.1
    e19.2.2.2.2.1
    e19.2.2.2.2.2.1
    e19.2.2.2.2.2.2.1
    e19.2.2.2.2.2.2.2.1
    e19.2.2.2.2.2.2.2.2.1
    e19.2.2.2.2.2.2.2.2.2.1
    e19.2.2.2.2.2.2.2.2.2.2.1
    e19.2.2.2.2.2.2.2.2.2.2.2.1
    e19.2.2.2.2.2.2.2.2.2.2.2.2.1
    e19.2.2.2.2.2.2.2.2.2.2.2.2.2.1
    e19.2.2.2.2.2.2.2.2.2.2.2.2.2.2.1
    e19.2.2.2.2.2.2.2.2.2.2.2.2.2.2.2.1
    e19.2.2.2.2.2.2.2.2.2.2.2.2.2.2.2.2.1
    e19.2.2.2.2.2.2.2.2.2.2.2.2.2.2.2.2.2.1
    e19.2.2.2.2.2.2.2.2.2.2.2.2.2.2.2.2.2.2.1
    e19.2.2.2.2.2.2.2.2.2.2.2.2.2.2.2.2.2.2.2
    e20.1
    e20.2.1
    e20.2.2.1
    e20.2.2.2.1
    e20.2.2.2.2.1
    (HH.xc_l e20.2.2.2.2.2.1)
    e20.2.2.2.2.2.2.1
    e20.2.2.2.2.2.2.2.1
    e20.2.2.2.2.2.2.2.2.1
    e20.2.2.2.2.2.2.2.2.2.1
    e20.2.2.2.2.2.2.2.2.2.2.1
    (HH.fn_x (st := sXi_11) (HH.says_fn c 39) e20.2.2.2.2.2.2.2.2.2.2.2.1 e20.2.2.2.2.2.2.2.2.2.2.2.2.1)
    e20.2.2.2.2.2.2.2.2.2.2.2.2.2.1
    (by first | rfl | decide +kernel)
    (HH.fs_l e20.2.2.2.2.2.2.2.2.2.2.2.2.2.2.1)
    e20.2.2.2.2.2.2.2.2.2.2.2.2.2.2.2.1
    (by first | rfl | decide +kernel)
    (HH.cell_l e20.2.2.2.2.2.2.2.2.2.2.2.2.2.2.2.2.1)
    (HH.ci_l e20.2.2.2.2.2.2.2.2.2.2.2.2.2.2.2.2.2.1)
    e20.2.2.2.2.2.2.2.2.2.2.2.2.2.2.2.2.2.2.1
    e20.2.2.2.2.2.2.2.2.2.2.2.2.2.2.2.2.2.2.2
    (HH.xc_l e21.1)
    e21.2.1
    e21.2.2.1
    e21.2.2.2.1
    e21.2.2.2.2.1
    e21.2.2.2.2.2.1
    (HH.fn_x (st := sXi_12) (HH.says_fn c 40) e21.2.2.2.2.2.2.1 e21.2.2.2.2.2.2.2.1)
    e21.2.2.2.2.2.2.2.2.1
    (by first | rfl | decide +kernel)
    (HH.fs_l e21.2.2.2.2.2.2.2.2.2.1)
    e21.2.2.2.2.2.2.2.2.2.2.1
    (by first | rfl | decide +kernel)
    (HH.cell_l e21.2.2.2.2.2.2.2.2.2.2.2.1)
    (HH.ci_l e21.2.2.2.2.2.2.2.2.2.2.2.2.1)
    e21.2.2.2.2.2.2.2.2.2.2.2.2.2.1
    e21.2.2.2.2.2.2.2.2.2.2.2.2.2.2.1
    (HH.xc_l e21.2.2.2.2.2.2.2.2.2.2.2.2.2.2.2.1)
    e21.2.2.2.2.2.2.2.2.2.2.2.2.2.2.2.2.1
    e21.2.2.2.2.2.2.2.2.2.2.2.2.2.2.2.2.2.1
    e21.2.2.2.2.2.2.2.2.2.2.2.2.2.2.2.2.2.2.1
    e21.2.2.2.2.2.2.2.2.2.2.2.2.2.2.2.2.2.2.2
    e22.1
    (HH.fn_x (st := sXi_15) (HH.says_fn c 41) e22.2.1 e22.2.2.1)
    e22.2.2.2.1
    (by first | rfl | decide +kernel)
    (HH.fs_l e22.2.2.2.2.1)
    e22.2.2.2.2.2.1
    (by first | rfl | decide +kernel)
    (HH.cell_l e22.2.2.2.2.2.2.1)
    (HH.ci_l e22.2.2.2.2.2.2.2.1)
    e22.2.2.2.2.2.2.2.2.1
    e22.2.2.2.2.2.2.2.2.2.1
    (HH.xc_l e22.2.2.2.2.2.2.2.2.2.2.1)
    e22.2.2.2.2.2.2.2.2.2.2.2.1
    e22.2.2.2.2.2.2.2.2.2.2.2.2.1
    e22.2.2.2.2.2.2.2.2.2.2.2.2.2.1
    e22.2.2.2.2.2.2.2.2.2.2.2.2.2.2.1
    e22.2.2.2.2.2.2.2.2.2.2.2.2.2.2.2.1
    (HH.fn_x (st := sXi_19) (HH.says_fn c 42) e22.2.2.2.2.2.2.2.2.2.2.2.2.2.2.2.2.1 e22.2.2.2.2.2.2.2.2.2.2.2.2.2.2.2.2.2.1)
    e22.2.2.2.2.2.2.2.2.2.2.2.2.2.2.2.2.2.2.1
    (by first | rfl | decide +kernel)
    (HH.fs_l e22.2.2.2.2.2.2.2.2.2.2.2.2.2.2.2.2.2.2.2)
    e23.1
    (by first | rfl | decide +kernel)
    (HH.cell_l e23.2.1)
    (HH.ci_l e23.2.2.1)
    e23.2.2.2.1
    e23.2.2.2.2.1
    e23.2.2.2.2.2.1
    (by first | rfl | decide +kernel)
    e23.2.2.2.2.2.2.1
    e23.2.2.2.2.2.2.2.1
    e23.2.2.2.2.2.2.2.2.1
    kd_D_B.at_
    kd_D_P.at_
    kd_D_B.lit
    kd_D_P.lit
    kd_D_P.low
    e23.2.2.2.2.2.2.2.2.2.1
    e23.2.2.2.2.2.2.2.2.2.2.1
    e23.2.2.2.2.2.2.2.2.2.2.2.1
    e23.2.2.2.2.2.2.2.2.2.2.2.2.1
    e23.2.2.2.2.2.2.2.2.2.2.2.2.2.1
    e23.2.2.2.2.2.2.2.2.2.2.2.2.2.2.1
    e23.2.2.2.2.2.2.2.2.2.2.2.2.2.2.2.1
    e23.2.2.2.2.2.2.2.2.2.2.2.2.2.2.2.2.1
    e23.2.2.2.2.2.2.2.2.2.2.2.2.2.2.2.2.2.1
    e23.2.2.2.2.2.2.2.2.2.2.2.2.2.2.2.2.2.2.1
    e23.2.2.2.2.2.2.2.2.2.2.2.2.2.2.2.2.2.2.2
    (HH.fn_d (st := sBInit) (HH.says_fn c 43) e24.1)
    e24.2.1
    e24.2.2.1
    (HH.sq_e e24.2.2.2.1 e24.2.2.2.2.1)
    e24.2.2.2.2.2.1
    e24.2.2.2.2.2.2.1
    e24.2.2.2.2.2.2.2.1
    e24.2.2.2.2.2.2.2.2.1
    (HH.fn_l (st := sBRoom) (HH.says_fn c 44))
    e24.2.2.2.2.2.2.2.2.2.1
    e24.2.2.2.2.2.2.2.2.2.2.1
    e24.2.2.2.2.2.2.2.2.2.2.2.1
    e24.2.2.2.2.2.2.2.2.2.2.2.2.1
    e24.2.2.2.2.2.2.2.2.2.2.2.2.2.1
    e24.2.2.2.2.2.2.2.2.2.2.2.2.2.2.1
    e24.2.2.2.2.2.2.2.2.2.2.2.2.2.2.2.1
    e24.2.2.2.2.2.2.2.2.2.2.2.2.2.2.2.2.1
    e24.2.2.2.2.2.2.2.2.2.2.2.2.2.2.2.2.2.1
    e24.2.2.2.2.2.2.2.2.2.2.2.2.2.2.2.2.2.2
end W8
open PySem PySem.W PySem.Calls PyProof.Rows
theorem PySem.Challenge.cw_turtlestold_k89_merged_books_holds : PySem.Challenge.rw_turtlestold_k89_merged_books.Holds := by
  w_on; o_law
  refine HandSHeadRun.head_any (r := OpenLaw.row PySem.Challenge.rw_turtlestold_k89_merged_books) (q := view (OpenLaw.row PySem.Challenge.rw_turtlestold_k89_merged_books).prog [75]) (H := W8.hk) (ob := W8.obs) (M := 10000) (loose := W8.loose) (d := HandSHeadRun.topDef (OpenLaw.row PySem.Challenge.rw_turtlestold_k89_merged_books).prog 75) (kwd := []) W8.obs_eq
    (by kernel_rfl) (fun s => by kernel_rfl) W8.run (by kernel_rfl) (by kernel_rfl) (by kernel_rfl) (by rfl) (by first | assumption | decide +kernel) (by decide +kernel) ⟨rfl, rfl, rfl, rfl, rfl, by decide +kernel⟩ ?hw ?hc
  case hw => w_witness2
  case hc =>
    refine HH.walk_ofBE (l := PySem.Challenge.rw_turtlestold_k89_merged_books) (n := 63) (k := 13) (x := "script") (CX := L2.CX0) rfl (by decide) (by kernel_rfl) ⟨rfl, by decide, by decide⟩ ?F (fun _ _ _ _ z => z)
    intro w mg fa h Y G hmg0
    obtain ⟨K, KX, c⟩ := Y
    have hmg : mg ("law" : PySem.Str) = some (.ref fa) := by
      have e : (HandSHeadRun.topDef (OpenLaw.row PySem.Challenge.rw_turtlestold_k89_merged_books).prog 75).name = ("law" : PySem.Str) := by kernel_rfl
      rw [← e]
      exact hmg0
    obtain ⟨fd, hb, hF⟩ := W8.facts KX G hmg c
    exact ⟨K, fd, W8.spLaw K, KX, hb, fun H a ns hl hbt _ hS => ⟨a, ns, rfl, hS, hl, hbt, fun _ => rfl⟩, hF⟩

