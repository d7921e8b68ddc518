import PyProof.Rows.All
import Wide.All
import OpenK.AllK
import Wide.FinOn
import HandS.Base
import HandS.Call
import HandS.List
import HandS.Set
import HandS.Strs
import HandS.SetFor
import HandS.Iter
import KE.GoesMore
import KE.GoesEnum
import HandS.Dict
import HandS.Comp
import HandS.More
import HandS.Exc
import HandS.TryOnly
import HandS.ExcOwn
import HandS.Deep
import HandS.Style
import HandS.IsInst
import HandS.SortInts
import HandS.SortRule
import HandS.TupAny
import HandS.Conv
import HandS.Words
import HandS.HeadHook1
import KE.DatumOrd
import HandS.WordsDict
import HandS.Walk
import HandS.CallSlots
import HandS.Head0
import HandS.Head1
import HandS.Head2
import HandS.HeadEnd
import HandS.HeadHook2
import PySem.Challenge.RW_nofall_k21_ties_that_leave
set_option Elab.async false
set_option linter.all false
set_option maxRecDepth 100000
set_option maxHeartbeats 3200000
/-! Z50: set(xs) of a list of ints; sorted(set(xs)), len(set(xs)). -/
namespace Z
open PySem PySem.Spec PyProof.Rows L2
section
variable {P : Program} {w : World} {A : Around} {E : Value → Shared → Prop} {s : Shared}
theorem call_setL {l : Addr} {items : Array Value} (ns : List Int) {Q : Value → Shared → Prop} (hh : A.handled = none) (hl : s.heap.IsList l items) (hit : IntsAre items.toList ns) (hb : ns.length + 1 < scanBound)
    (h : ∀ (h' : Heap) (tk c : Nat), SetR w h' s.heap.objs.size (fun j => decide (j ∈ ns)) c → c ≤ ns.length → (∀ b o, s.heap.get? b = some o → h'.get? b = some o) → Q (.ref s.heap.objs.size) { s with heap := h', toks := tk }) :
    wpAny (model P w) A (call (.type "set") [.ref l]) Q E s := by
  have hisz : items.size = ns.length := by
    have q := IntsAre.length hit
    rw [Array.length_toList] at q
    exact q
  obtain ⟨c, tl, hmro⟩ := F.called_set.mro
  have hmade := F.called_set.made
  have hsub := F.called_set.sub
  refine wpAny_call (codeAny_of_tree ?_)
  show wpAny _ _ (callAny (.type "set") _) _ _ _
  refine wpAny_pure ⟨Code.quiet_builtin _ (by decide +kernel), codeAny_builtin F.entry_type_call ?_⟩
  rw [Around.under_plain (weight_type_call_type "set" [.ref l] []) rfl]
  have h1 := F.called_set.notType
  have h2 := F.called_set.canCreate
  have hct := F.typeCall_set_1 (.ref l)
  repeat (any_goals (first | assumption | wp_step))

  refine codeAny_mono (code_set_led1 (.ref l) (E := E) (Q₁ := fun obj s₁ => obj = .ref s.heap.objs.size ∧ s₁ = { s with heap := s.heap.push { cls := .type "set", dict := none, data := .set #[] 0 (.fresh 0 0 (!w.params.followText "set-order")) } }) ⟨rfl, rfl⟩) fun r s₁ hr => ?_
  cases r with
  | error e => exact hr
  | ok fl =>
    cases fl with
    | ret obj =>
      obtain ⟨rfl, rfl⟩ := hr
      have hS : (s.heap.push { cls := .type "set", dict := none, data := .set #[] 0 (.fresh 0 0 (!w.params.followText "set-order")) }).get? s.heap.objs.size = some { cls := .type "set", dict := none, data := .set #[] 0 (.fresh 0 0 (!w.params.followText "set-order")) } := Heap.get?_push_size _ rfl
      have hT : Shared.TypeIs { s with heap := s.heap.push { cls := .type "set", dict := none, data := .set #[] 0 (.fresh 0 0 (!w.params.followText "set-order")) } } (.ref s.heap.objs.size) "set" := ⟨_, hS, rfl⟩
      have hli := F.called_set.init.lookup
      have hbi := F.called_set.init.bind (.ref s.heap.objs.size)
      repeat (any_goals (first | assumption | wp_step))

      refine codeAny_mono (codeAny_call_builtin (R := wants (fun r s₂ => r = .none ∧ ∃ h' tk c, s₂ = { s with heap := h', toks := tk } ∧ SetR w h' s.heap.objs.size (fun j => decide (j ∈ ns)) c ∧ c ≤ ns.length ∧
          (∀ b o, s.heap.get? b = some o → h'.get? b = some o)) E) F.called_set.init.plain F.entry_set_init (check_set_init_1 hT ?_)) fun r₂ s₂ hr₂ => ?_
      · obtain ⟨ol, hol, hcl, nl, hdl⟩ := hl
        obtain ⟨ocls, odict, odata, oslots⟩ := ol
        simp only at hcl hdl
        subst hcl; subst hdl
        have hol' : (s.heap.push { cls := .type "set", dict := none, data := .set #[] 0 (.fresh 0 0 (!w.params.followText "set-order")) }).get? l = some { cls := .type "list", dict := odict, data := .seq items nl, slots := oslots } := Heap.get?_push_of_some _ hol
        have hsls := F.sub_list_set
        have hslf := F.sub_list_frozenset
        have hne : (Value.type "list" == Value.type "dict") = false := by decide
        have hl1 : (s.heap.push { cls := .type "set", dict := none, data := .set #[] 0 (.fresh 0 0 (!w.params.followText "set-order")) }).IsList l items := ⟨_, hol', rfl, nl, rfl⟩
        unfold Builtin.«set.__init__» noKeywords Builtin.Frozenset.updateFrom
        generalize hPI : pyIter = PI
        wp_walk
        subst hPI

        refine wpAny_pyIter_list hl1 ?_
        refine wpAny_bind (wpAny_runValue ?_)
        have hlS : l < s.heap.objs.size := Heap.lt_size hol
        have hh3 : A.in1.in1.in1.handled = none := by simp [hh]
        have hz1 : (s.heap.push { cls := .type "set", dict := none, data := .set #[] 0 (.fresh 0 0 (!w.params.followText "set-order")) }).objs.size = s.heap.objs.size + 1 := Heap.size_push ..
        have hneI : l ≠ (s.heap.push { cls := .type "set", dict := none, data := .set #[] 0 (.fresh 0 0 (!w.params.followText "set-order")) }).objs.size := by
          rw [Heap.size_push]; exact Nat.ne_of_lt (Nat.lt_succ_of_lt hlS)
        have hSf : s.heap.objs.size ∉ [(s.heap.push { cls := .type "set", dict := none, data := .set #[] 0 (.fresh 0 0 (!w.params.followText "set-order")) }).objs.size, l] := by
          rw [Heap.size_push]; simp only [List.mem_cons, List.mem_singleton, List.not_mem_nil, or_false, not_or]
          exact ⟨Nat.ne_of_lt (Nat.lt_succ_self _), Nat.ne_of_gt hlS⟩
        have hval : ∀ (i : Nat) (v : Value), items[i]? = some v → ∃ k t, ns[i]? = some k ∧ v = .int k t := fun i v hv => by
          have hi : i < ns.length := by rw [← hisz]; exact (Array.getElem?_eq_some_iff.mp hv).1
          obtain ⟨t, e⟩ := PyProof.Rows.IntsAre.int_at hit i v (by rw [Array.getElem?_toList]; exact hv)
          refine ⟨ns[i], t, List.getElem?_eq_getElem hi, ?_⟩
          rw [e, List.getD_eq_getElem?_getD, List.getElem?_eq_getElem hi] <;> rfl
        refine set_update_ints ((Walks.list hh3 _ l hneI items).toS) s.heap.objs.size
          hSf ns hisz hb hval (items.size - 0) 0 _ (by omega) (Nat.zero_le _)
          ⟨⟨_, Heap.get?_push_size _ rfl, rfl, rfl⟩, (hl1.push _)⟩ ?hS0 ?hR
        case hS0 =>
          have hget : ((s.heap.push { cls := .type "set", dict := none, data := .set #[] 0 (.fresh 0 0 (!w.params.followText "set-order")) }).push { cls := .type "list_iterator", data := .fields #[.ref l, .int 0 0] }).get? s.heap.objs.size
              = some { cls := .type "set", dict := none, data := .set #[] 0 (.fresh 0 0 (!w.params.followText "set-order")) } := Heap.get?_push_of_some _ hS
          exact ⟨0, Nat.le_refl 0, setR_new_at hget⟩
        case hR =>
          intro s' c' hm hc' hS'
          obtain ⟨h', g2, d', tk', os'⟩ := s'
          have eg : g2 = s.gens := hm.gens
          have ed : d' = s.drawn := hm.drawn
          have eo : os' = s.os := hm.os
          subst eg; subst ed; subst eo
          show wpAny _ _ _ _ _ _
          refine wpAny_pure ?_
          show wpAny _ _ (ret Value.none) _ _ _
          rw [hisz] at hc'
          refine wpAny_pure ⟨rfl, h', tk', c', rfl, hS', hc', fun b o e => ?_⟩
          have hb0 : b < s.heap.objs.size := Heap.lt_size e
          have hb1 : b ≠ s.heap.objs.size := Nat.ne_of_lt hb0
          have hb2 : b ≠ (s.heap.push { cls := .type "set", dict := none, data := .set #[] 0 (.fresh 0 0 (!w.params.followText "set-order")) }).objs.size := by
            rw [Heap.size_push]; exact Nat.ne_of_lt (Nat.lt_succ_of_lt hb0)
          exact hm.heap b o (by simp only [List.mem_cons, List.mem_singleton, List.not_mem_nil, or_false, not_or]; exact ⟨hb1, hb2⟩) (Heap.get?_push_of_some _ (Heap.get?_push_of_some _ e))

      · cases r₂ with
        | error e => exact hr₂
        | ok fl₂ =>
          cases fl₂ with
          | ret r =>
            obtain ⟨rfl, h', tk, c', rfl, hS', hc', hk'⟩ := hr₂
            repeat (any_goals (first | assumption | wp_step))
            exact h _ _ _ hS' hc' hk'
          | _ => exact hr₂.elim
    | _ => exact hr.elim

end
end Z

set_option Elab.async false
set_option linter.all false
set_option maxRecDepth 100000
set_option maxHeartbeats 2000000
/-! Z0: enumerate over a tuple. -/
namespace Z
open PySem PySem.Spec PyProof.Rows L2
open AutoSeq1 (wpAny_loadPart')
theorem meets_enumT (l : Addr) (items : Array Value) :
    Meets (Builtin.«enumerate.__new__» ⟨[.type "enumerate", .ref l], []⟩) (fun _ R s => s.heap.IsTuple l items ∧
      R (.ok (.ret (.ref (s.heap.push { cls := .type "tuple_iterator", data := .fields #[.ref l, .int 0 0] }).objs.size)))
        { s with heap := (s.heap.push { cls := .type "tuple_iterator", data := .fields #[.ref l, .int 0 0] }).push { cls := .type "enumerate", data := .fields #[.none, .bool false, .ref s.heap.objs.size, rawInt 0, .none, .none] } }) :=
  .of_wp fun prog w A R s h => by
    obtain ⟨hp, g, d, tk, os⟩ := s; obtain ⟨hL, h⟩ := h
    have hsub := sub_enumerate
    have q1 : ∀ {A' : Around} {E : Value → Shared → Prop} {Q : Value → Shared → Prop}, Q (.ref hp.objs.size) ⟨(hp.push { cls := .type "tuple_iterator", data := .fields #[.ref l, .int 0 0] }), g, d, tk, os⟩ → wpAny (model prog w) A' (pyIter (.ref l)) Q E ⟨hp, g, d, tk, os⟩ :=
      fun q => wpAny_pyIter_tuple (s := ⟨hp, g, d, tk, os⟩) hL q
    wp_walk
    refine wpAny_stack_any fun st => wpAny_pure ?_
    split
    · rename_i c _ _ _ _ _
      cases (c == Value.type "enumerate")
      · wp_walk using q1
        exact ⟨_, rfl, h⟩
      · wp_walk using q1
        exact ⟨_, rfl, h⟩
    · wp_walk using q1
      exact ⟨_, rfl, h⟩
theorem call_enumT {prog : Program} {w : World} {A : Around} {E : Value → Shared → Prop} {s : Shared} {l : Addr} {items : Array Value} {Q : Value → Shared → Prop} (hL : s.heap.IsTuple l items)
    (h : ∀ h', IsEnum h' (s.heap.objs.size + 1) s.heap.objs.size 0 .none → h'.IsTupleIter s.heap.objs.size l 0 → h'.objs.size = s.heap.objs.size + 2 →
      (∀ b o, s.heap.get? b = some o → h'.get? b = some o) → Q (.ref (s.heap.objs.size + 1)) { s with heap := h' }) :
    wpAny (model prog w) A (call (.type "enumerate") [.ref l]) Q E s := by
  refine callType_new F.called_enumerate (by decide) (F.typeCall_enumerate_1 _) (F.newCall_enumerate_1 _) (fun obj => F.args_object_init_2 obj _) F.entry_enumerate_new
    (meets_enumT l items) ⟨hL, ?_⟩
  have hz : (s.heap.push { cls := .type "tuple_iterator", data := .fields #[.ref l, .int 0 0] }).objs.size = s.heap.objs.size + 1 := Heap.size_push ..
  show _ ∧ _
  rw [hz]
  have he : IsEnum ((s.heap.push { cls := .type "tuple_iterator", data := .fields #[.ref l, .int 0 0] }).push
      { cls := .type "enumerate", data := .fields #[.none, .bool false, .ref s.heap.objs.size, rawInt 0, .none, .none] }) (s.heap.objs.size + 1) s.heap.objs.size 0 .none := by
    have := Heap.get?_push_size (s.heap.push { cls := .type "tuple_iterator", data := .fields #[.ref l, .int 0 0] })
      (o := { cls := .type "enumerate", data := .fields #[.none, .bool false, .ref s.heap.objs.size, rawInt 0, .none, .none] }) rfl
    rw [hz] at this; exact this
  refine ⟨⟨_, he, rfl⟩, h _ he ⟨_, Heap.get?_push_of_some _ (Heap.get?_push_size _ rfl), rfl, rfl⟩ (by rw [Heap.size_push, hz]) fun b o x => Heap.get?_push_of_some _ (Heap.get?_push_of_some _ x)⟩
theorem next_enumT_end {prog : Program} {w : World} {A : Around} {E : Value → Shared → Prop} {s : Shared} {e it l : Addr} {i : Nat} {items : Array Value} {old : Value} {Q : Option Value → Shared → Prop} (hh : A.handled = none)
    (he : IsEnum s.heap e it i old) (hit : s.heap.IsTupleIter it l i) (hl : s.heap.IsTuple l items) (hx : items[i]? = none)
    (hQ : ∀ h', Heap.ExtBut it s.heap h' → Q none { s with heap := h' }) : wpAny (model prog w) A (pyNext (.ref e)) Q E s := by
  have hT : s.TypeIs (.ref e) "enumerate" := ⟨_, he, rfl⟩
  unfold pyNext
  refine wpAny_bind (wpAny_attempt (wpAny_callSpecial?_slot (name := Str.ofString "__next__") hT F.slot_enumerate_next
    (wpAny_call_entry F.slot_enumerate_next hT F.entry_enumerate_next ?_ (F.args_enumerate_next_1 _))))
  show wpAny _ _ (field (.ref e) 2 >>= _) _ _ _
  refine wpAny_bind (wpAny_field he rfl (x := .ref it) rfl ?_)
  refine wpAny_bind (wpAny_nextOf_tuple_end hh hit hl hx fun h' x he' hx' => ?_)
  obtain ⟨o, ho, hc⟩ := hx'
  refine wpAny_bind (wpAny_isInstance (T := "StopIteration") (b := true) ⟨o, ho, hc⟩ isSubtype_stop ?_)
  exact wpAny_pure (hQ _ he')
/-- the tuple at a, each item in a new pair -/
def IteT (K : PySem.W.Frag) (a : Addr) : L2.It :=
  ⟨fun i H => ∃ (xs : List V) (x : V), SqT K H a xs ∧ xs[i]? = some x, fun i H v H' => ∃ T x, v = .ref T ∧ H T = none ∧ H' = upd H T (.tup [.int (i : Nat), x]) ∧ ∀ xs, SqT K H a xs → xs[i]? = some x, fun i H => ∃ xs : List V, SqT K H a xs ∧ xs.length ≤ i⟩
theorem turn_enumT {P : Program} {w : World} {K : PySem.W.Frag} {elts : List Expr} {kk : Nat} {tpos : Pos} (a e it : Addr) :
    Turn P w K (.Tuple elts kk tpos) (IteT K a) [e, it] e (fun i h => (∃ old, IsEnum h e it ((i : Nat) : Int) old) ∧ h.IsTupleIter it a i ∧ e ≠ it ∧ a ≠ it ∧ a ≠ e) where
  mem := by simp
  obj := fun i h st b hb => by
    obtain ⟨⟨old, he⟩, ⟨o, ho, hc, hd⟩, _⟩ := st
    have e' : b = e ∨ b = it := by simpa using hb
    rcases e' with z | z
    · rw [z]; exact ⟨_, he, fun v q => nomatch q⟩
    · rw [z]; exact ⟨o, ho, fun v q => by rw [hd] at q; cases q⟩
  keep := fun i h h' st k => let ⟨⟨old, he⟩, hi, hne⟩ := st; ⟨⟨old, k e (by simp) _ he⟩, hi.at fun o q => k it (by simp) o q, hne⟩
  item := by
    intro X hP hw hK hc i pins s σ H E I hf st hg
    subst hP hw hK
    obtain ⟨⟨old, he⟩, hit, hne, hai, hae⟩ := st
    obtain ⟨xs, x, hq, hx⟩ := hg
    obtain ⟨its, rv, p, hz⟩ := I.tuple hq
    obtain ⟨u, hu, ru⟩ := rv.get hx
    have hel : e < s.heap.objs.size := Heap.lt_size he
    have hil : it < s.heap.objs.size := by obtain ⟨_, q, _⟩ := hit; exact Heap.lt_size q
    have hui : i < its.toArray.size := by
      have := (List.getElem?_eq_some_iff.mp hu).1
      simpa using this
    refine wpAny_pyNext_enum_itemD (Draws.tuple (A := X.A.in1) (show X.A.in1.handled = none from I.ok.hd hc) it a hai its.toArray) he ⟨hit, p⟩ hui hne (by simp [hne, Ne.symm hae]) fun y h' tk hy ho hit' hT hsz hk => ?_
    have ey : y = u := by
      have hy' : its[i]? = some y := by simpa using hy
      rw [hu] at hy'
      exact (Option.some.inj hy').symm
    subst ey
    refine ⟨_, rfl, wpAny_letOwnedTupleGo_enum (s := { s with heap := h', toks := tk + 1 }) ho fun h'' he' sb => ?_⟩
    have hT2 : h''.get? s.heap.objs.size = some { cls := .type "tuple", data := .seq #[.int i tk, y] } := (sb.2 _ (Nat.ne_of_gt hel)).trans hT
    have new : ObjOk X.prog X.w (upd H s.heap.objs.size (.tup [.int (i : Nat), x])) h'' s.heap.objs.size (.tup [.int (i : Nat), x]) :=
      ⟨by show 2 ≤ sizeLine; decide, [.int i tk, y], .cons ⟨_, rfl⟩ (.cons ru .nil), ⟨_, hT2, rfl, _, rfl⟩⟩
    have I1 : Inv X pins σ (upd H s.heap.objs.size (.tup [.int (i : Nat), x])) { s with heap := h'', toks := tk + 1 } :=
      I.turnedNew (ch := [e, it]) (fun b ob hb q => (sb.2 b (fun z => hb (by simp [z]))).trans (hk b ob (fun z => hb (by simp [z])) (fun z => hb (by simp [z])) q)) hf (Nat.le_refl _) new
    refine ⟨.ref s.heap.objs.size, _, I1, rfl, ⟨_, x, rfl, I.hok.fresh (Nat.le_refl _), rfl, fun ys hy => by rw [I.tuple_inj hy hq]; exact hx⟩, ⟨⟨y, ?_⟩, hit'.1.at fun o q => (sb.2 it (Ne.symm hne)).trans q, hne, hai, hae⟩, fun b hb => ?_⟩
    · have e1 : ((i + 1 : Nat) : Int) = (i : Int) + 1 := by omega
      rw [e1]; exact he'
    · have hb' : b < s.heap.objs.size := by
        have e' : b = e ∨ b = it := by simpa using hb
        rcases e' with z | z
        · rw [z]; exact hel
        · rw [z]; exact hil
      rw [upd_ne (Nat.ne_of_lt hb')]
      exact (hf b hb).1
  done := by
    intro X hP hw hK hc i pins s σ H E I hf st hg
    subst hP hw hK
    obtain ⟨⟨old, he⟩, hit, hne, hai, hae⟩ := st
    obtain ⟨xs, hq, hx⟩ := hg
    obtain ⟨its, rv, p, hz⟩ := I.tuple hq
    obtain ⟨f0, f1, f2, f3, f4, f5⟩ := hf it (by simp)
    have hl := rv.length
    exact next_enumT_end (I.ok.hd hc) he hit p (by simp; omega) fun h' eb => ⟨rfl, I.turned (t' := s.toks) (fun b o hb q => eb b o hb q) f0 f1 f3 f4 f5⟩
  self := fun A i s Q E st h => let ⟨⟨_, he⟩, _⟩ := st; wpAny_pyIter_enum he h
/-- over a list or a tuple -/
def iEnumS (K : PySem.W.Frag) (ta : TA) : TI := fun σ H R => ta σ H fun vs H1 => (∃ a xs, vs = [.ref a] ∧ SqL K H1 a xs ∧ R (Ite K a) H1) ∨ ∃ a xs, vs = [.ref a] ∧ SqT K H1 a xs ∧ R (IteT K a) H1
theorem pi_enumS {X : Cx} {e : Expr} {ta : TA} {p pos tpos : Pos} {elts : List Expr} {kk : Nat} (hg : Gl X "enumerate") (hm : X.mg "enumerate" = none) (ha : PA X [e] ta) (hs : starEach [e] X.env = [(false, eval e X.env)] := by rfl) :
    PI X (.Tuple elts kk tpos) (.Call (.Name "enumerate" p) [e] [] pos) (iEnumS X.K ta) := by
  refine ⟨fun pins s σ H R I h => ?_⟩
  refine Call_ (ld_blt I hg hm boot_enumerate (PyProof.Rows.callWith_type1 (thn (ha.run pos pins s σ H _ I h) fun us s1 ⟨vs, H1, I1, r1, q1⟩ => ?_) hs rfl))
  have two : ∀ {b : Addr}, (b = s1.heap.objs.size + 1 ∨ b = s1.heap.objs.size) → s1.heap.objs.size ≤ b := fun {b} e' => by
    rcases e' with z | z
    · rw [z]; exact Nat.le_add_right _ _
    · rw [z]; exact Nat.le_refl _
  rcases q1 with ⟨a, xs, ex, hq, q⟩ | ⟨a, xs, ex, hq, q⟩
  · subst ex
    cases r1 with
    | cons r rr =>
      cases rr
      cases r
      obtain ⟨its, rv, p', hz⟩ := I1.list hq
      refine call_enumerate_list p'.isList fun h' he hit hsz hk => wpAny_pyIter_enum he ?_
      have I2 : Inv X pins σ H1 { s1 with heap := h' } := I1.kept (t' := s1.toks) hk
      refine ⟨s1.heap.objs.size + 1, [s1.heap.objs.size + 1, s1.heap.objs.size], _, _, H1, rfl, I2, turn_enum a (s1.heap.objs.size + 1) s1.heap.objs.size, ⟨⟨.none, he⟩, hit, Nat.succ_ne_self _⟩, fun b hb => ?_, q⟩
      have hle := two (by simpa using hb)
      exact I1.fpOk hle (I1.hok.fresh hle)
  · subst ex
    cases r1 with
    | cons r rr =>
      cases rr
      cases r
      obtain ⟨its, rv, p', hz⟩ := I1.tuple hq
      have hal : a < s1.heap.objs.size := by obtain ⟨o, ho, _⟩ := p'; exact Heap.lt_size ho
      refine call_enumT p' fun h' he hit hsz hk => wpAny_pyIter_enum he ?_
      have I2 : Inv X pins σ H1 { s1 with heap := h' } := I1.kept (t' := s1.toks) hk
      refine ⟨s1.heap.objs.size + 1, [s1.heap.objs.size + 1, s1.heap.objs.size], _, _, H1, rfl, I2, turn_enumT a (s1.heap.objs.size + 1) s1.heap.objs.size, ⟨⟨.none, he⟩, hit, Nat.succ_ne_self _, Nat.ne_of_lt hal, Nat.ne_of_lt (Nat.lt_succ_of_lt hal)⟩, fun b hb => ?_, q⟩
      have hle := two (by simpa using hb)
      exact I1.fpOk hle (I1.hok.fresh hle)
end Z

set_option Elab.async false
set_option linter.all false
set_option maxRecDepth 100000
/-! Z1: data, the store, the IR, what it asks (weakest preconditions). -/
namespace Z
open PySem L2

/-- data: trees that do not change any more; a cell is an object of the store -/
inductive D where
  | non | bl (b : Bool) | int (i : Int) | str (x : Str) | ty (n : String)
  | own (c : Str)
  | cell (a : Addr)
  | scr (l : List Int)
  | tup (l : List D) | lst (l : List D)
  | dct (ks : List Key) (vs : List D)
  | dtt (ks : List (List Key)) (vs : List D)
/-- what stands at a cell -/
inductive Ob where
  | lst (l : List D)
  | dK (kvs : List (Key × D))
  | dT (kvs : List (List Key × D))
  | ins (c : Str) (fs : List (Str × D))
abbrev MM := Addr → Option Ob
abbrev Env := List (Option D)
abbrev PQ := D → MM → Prop
abbrev PB := Bool → MM → Prop
abbrev PL := List D → MM → Prop
/-- an exception: its class, what its field holds -/
structure Xc where
  cls : Str
  val : Option D
abbrev XQ := Xc → MM → Prop
abbrev CallSem := Str → List D → MM → PQ → XQ → Prop

def put (M : MM) (a : Addr) (o : Ob) : MM := fun b => if b = a then some o else M b
def del (M : MM) (a : Addr) : MM := fun b => if b = a then none else M b
def MSub (M M' : MM) : Prop := ∀ a o, M a = some o → M' a = some o
@[simp] theorem put_same {M : MM} {a : Addr} {o : Ob} : put M a o a = some o := if_pos rfl
theorem put_ne {M : MM} {a b : Addr} {o : Ob} (h : b ≠ a) : put M a o b = M b := if_neg h
@[simp] theorem put_put {M : MM} {a : Addr} {o u : Ob} : put (put M a o) a u = put M a u := by
  funext b; unfold put; split <;> rfl
theorem put_comm {M : MM} {a b : Addr} {o u : Ob} (h : a ≠ b) : put (put M a o) b u = put (put M b u) a o := by
  funext c; unfold put; split <;> split <;> simp_all
theorem put_self {M : MM} {a : Addr} {o : Ob} (h : M a = some o) : put M a o = M := by
  funext b; unfold put; split
  · rename_i e; rw [e, h]
  · rfl
@[simp] theorem del_put {M : MM} {a : Addr} {o : Ob} (h : M a = none) : del (put M a o) a = M := by
  funext b; unfold del put; split
  · rename_i e; rw [e, h]
  · rfl
theorem MSub.refl (M : MM) : MSub M M := fun _ _ h => h
theorem MSub.trans {M M1 M2 : MM} (a : MSub M M1) (b : MSub M1 M2) : MSub M M2 := fun c o h => b c o (a c o h)
theorem MSub.del {M : MM} {a : Addr} : MSub (del M a) M := fun b o h => by
  unfold Z.del at h
  split at h
  · cases h
  · exact h
theorem MSub.put {M : MM} {a : Addr} {o : Ob} (h : M a = none) : MSub M (put M a o) := fun b u e => by
  rw [put_ne (by rintro rfl; rw [h] at e; cases e)]
  exact e
theorem MSub.fresh {M M' : MM} (s : MSub M M') {a : Addr} (h : M' a = none) : M a = none := by
  cases e : M a with
  | none => rfl
  | some o => rw [s a o e] at h; cases h

/-! ### freezing -/
mutual
/-- t is d, some cells (that are no more in M') being told by what they hold -/
inductive Fz (M M' : MM) : D → D → Prop
  | same (d : D) : Fz M M' d d
  | cellL {a : Addr} {l l' : List D} : M a = some (.lst l) → M' a = none → Fzs M M' l l' → Fz M M' (.cell a) (.lst l')
  | cellK {a : Addr} {kvs : List (Key × D)} {vs : List D} : M a = some (.dK kvs) → M' a = none → Fzs M M' (kvs.map (·.2)) vs → Fz M M' (.cell a) (.dct (kvs.map (·.1)) vs)
  | cellT {a : Addr} {kvs : List (List Key × D)} {vs : List D} : M a = some (.dT kvs) → M' a = none → Fzs M M' (kvs.map (·.2)) vs → Fz M M' (.cell a) (.dtt (kvs.map (·.1)) vs)
  | tup {l l' : List D} : Fzs M M' l l' → Fz M M' (.tup l) (.tup l')
  | lst {l l' : List D} : Fzs M M' l l' → Fz M M' (.lst l) (.lst l')
inductive Fzs (M M' : MM) : List D → List D → Prop
  | nil : Fzs M M' [] []
  | cons {d t : D} {ds ts : List D} : Fz M M' d t → Fzs M M' ds ts → Fzs M M' (d :: ds) (t :: ts)
end
/-- an environment likewise -/
inductive FzE (M M' : MM) : Env → Env → Prop
  | nil : FzE M M' [] []
  | no {r r' : Env} {d : Option D} : FzE M M' r r' → FzE M M' (d :: r) (none :: r')
  | yes {r r' : Env} {d t : D} : Fz M M' d t → FzE M M' r r' → FzE M M' (some d :: r) (some t :: r')

/-! ### reading -/
/-- the items of a list, a tuple, the script -/
def seqOf (M : MM) : D → Option (List D)
  | .lst l => some l
  | .tup l => some l
  | .scr l => some (l.map .int)
  | .cell a => match M a with
    | some (.lst l) => some l
    | _ => none
  | _ => none
/-- of a list alone -/
def lstOf (M : MM) : D → Option (List D)
  | .lst l => some l
  | .scr l => some (l.map .int)
  | .cell a => match M a with
    | some (.lst l) => some l
    | _ => none
  | _ => none
/-- of a list that H tracks as such -/
def lstT (M : MM) : D → Option (List D)
  | .lst l => some l
  | .cell a => match M a with
    | some (.lst l) => some l
    | _ => none
  | _ => none
def dctOf (M : MM) : D → Option (List (Key × D))
  | .dct ks vs => some (ks.zip vs)
  | .cell a => match M a with
    | some (.dK kvs) => some kvs
    | _ => none
  | _ => none
def dttOf (M : MM) : D → Option (List (List Key × D))
  | .dtt ks vs => some (ks.zip vs)
  | .cell a => match M a with
    | some (.dT kvs) => some kvs
    | _ => none
  | _ => none
def keyOf : D → Option Key
  | .int i => some (.inl i)
  | .str x => some (.inr x)
  | _ => none
def keysOf : List D → Option (List Key)
  | [] => some []
  | d :: ds => match keyOf d, keysOf ds with
    | some k, some ks => some (k :: ks)
    | _, _ => none
section
variable {κ : Type} [DecidableEq κ]
def dGet (kvs : List (κ × D)) (k : κ) : Option D := (kvs.find? fun kv => decide (kv.1 = k)).map (·.2)
def dPut (kvs : List (κ × D)) (k : κ) (v : D) : List (κ × D) :=
  if (kvs.any fun kv => decide (kv.1 = k)) = true then kvs.map (fun kv => if kv.1 = k then (kv.1, v) else kv) else kvs ++ [(k, v)]
end
def dMerge (kvs more : List (Key × D)) : List (Key × D) := more.foldl (fun acc kv => dPut acc kv.1 kv.2) kvs
/-- what a dict has at a key: some (some v), some none; none: no dict, no such key -/
def dLook (M : MM) (o k : D) : Option (Option D) :=
  match dctOf M o, keyOf k with
  | some kvs, some k => some (dGet kvs k)
  | _, _ => match dttOf M o, k with
    | some kvs, .tup l => (keysOf l).map fun ks => dGet kvs ks
    | _, _ => none

mutual
/-- as plain data; c tells what the cells hold -/
def pyOf (c : Addr → Option PyData) : D → Option PyData
  | .non => some .none
  | .bl b => some (.bool b)
  | .int i => some (.int i)
  | .str x => some (.str x)
  | .cell a => c a
  | .scr l => some (.list (l.map .int))
  | .tup l => (pyAll c l).map .tuple
  | .lst l => (pyAll c l).map .list
  | _ => none
def pyAll (c : Addr → Option PyData) : List D → Option (List PyData)
  | [] => some []
  | d :: ds => match pyOf c d, pyAll c ds with
    | some x, some xs => some (x :: xs)
    | _, _ => none
end
/-- what the cells hold, so many deep -/
def pyCell (M : MM) : Nat → Addr → Option PyData
  | 0, _ => none
  | n + 1, a => match M a with
    | some (.lst l) => (pyAll (pyCell M n) l).map .list
    | _ => none
def py (M : MM) (d : D) : Option PyData := pyOf (pyCell M 8) d
def intsOf : List D → Option (List Int)
  | [] => some []
  | .int i :: ds => (intsOf ds).map (i :: ·)
  | _ => none
def blsOf : List D → Option (List Bool)
  | [] => some []
  | .bl i :: ds => (blsOf ds).map (i :: ·)
  | _ => none
def pairOf : D → Option (Int × Int)
  | .tup [.int i, .int j] => some (i, j)
  | _ => none
def pairsOf : List D → Option (List (Int × Int))
  | [] => some []
  | d :: ds => match pairOf d, pairsOf ds with
    | some p, some ps => some (p :: ps)
    | _, _ => none
def pr (p : Int × Int) : D := .tup [.int p.1, .int p.2]
@[simp] theorem intsOf_map (l : List Int) : intsOf (l.map D.int) = some l := by
  induction l with
  | nil => rfl
  | cons a l ih => simp [intsOf, ih]
@[simp] theorem blsOf_map (l : List Bool) : blsOf (l.map D.bl) = some l := by
  induction l with
  | nil => rfl
  | cons a l ih => simp [blsOf, ih]
@[simp] theorem pairsOf_map (l : List (Int × Int)) : pairsOf (l.map pr) = some l := by
  induction l with
  | nil => rfl
  | cons a l ih => simp [pairsOf, pairOf, pr, ih]
/-- a place in a list by an int of any sign -/
def ixD (l : List D) (i : Int) : Option D := atI l i
/-- the greatest, the least of a list -/
def imax : List Int → Int
  | [] => 0
  | [a] => a
  | a :: l => max a (imax l)
def imin : List Int → Int
  | [] => 0
  | [a] => a
  | a :: l => min a (imin l)
/-- without those met again -/
def ded : List Int → List Int
  | [] => []
  | a :: l => if a ∈ l then ded l else a :: ded l
def isort (l : List Int) : List Int := l.mergeSort (fun a b => decide (a ≤ b))
def pairLe (a b : Int × Int) : Bool := decide (a.1 < b.1 ∨ (a.1 = b.1 ∧ a.2 ≤ b.2))
/-- sorted(set(l)) -/
def sset (l : List Int) : List Int := isort (ded l)
def psort (l : List (Int × Int)) : List (Int × Int) := l.mergeSort pairLe

/-! ### the IR -/
inductive Lit where
  | int (i : Int) | bl (b : Bool) | non | str (x : Str)
def Lit.d : Lit → D
  | .int i => .int i
  | .bl b => .bl b
  | .non => .non
  | .str x => .str x
inductive Op where
  | add | sub | mul | fdiv | mod | pow | shl | shr | band | neg
  | eq | ne | lt | le | gt | ge
  | isN | notN | isB | notB
  | inn | notIn | idx
  | addK
  | len | abs | max2 | min2 | int1 | tuple1 | list1 (k : Bool) | sorted1 (k : Bool) | sum1 | max1 | min1 | all1
  | isinst
  | tup | lst (k : Bool)
  | mulK | rev (k : Bool) | sset (k : Bool) | lset | lrng (k : Bool)
/-- methods of built-in types -/
inductive Mt where
  | append | extend | insert | pop | popAt | clear
inductive Tg where
  | nm (i : Nat)
  | tp (l : List Tg)
mutual
inductive Ex where
  | var (i : Nat)
  | lit (l : Lit)
  | glob (x : Str)
  | op (o : Op) (es : Exs)
  | mth (m : Mt) (o : Ex) (es : Exs)
  | bool (k : Bool) (es : Exs)
  | not_ (a : Ex)
  | ite (c : Tx) (a b : Ex)
  | chain (o p : Op) (a b c : Ex)
  | call (f : Str) (es : Exs)
  | slice (k : Bool) (e : Ex) (lo hi : Ex)
  | absent
  | comp (k : Bool) (elt : Ex) (tg : Tg) (it : It) (ifs : Txs)
  | dict (k : Bool) (es : Exs)
inductive Exs where
  | nil
  | cons (e : Ex) (es : Exs)
inductive Tx where
  | val (e : Ex)
  | cmp (o : Op) (a b : Ex)
  | chain (o p : Op) (a b c : Ex)
  | not_ (t : Tx)
  | bool (k : Bool) (ts : Txs)
inductive Txs where
  | nil
  | cons (t : Tx) (ts : Txs)
inductive It where
  | seq (e : Ex)
  | rng1 (a : Ex)
  | rng2 (a b : Ex)
  | enum (e : Ex)
  | zip (a b : Ex)
end
mutual
inductive Sx where
  | asg (i : Nat) (e : Ex)
  | asgT (tg : Tg) (e : Ex)
  | asgSub (o i e : Ex)
  | expr (e : Ex)
  | ret (z : Bool) (e : Ex)
  | retN
  | ite (c : Tx) (a b : Sxs)
  | whl (c : Tx) (b : Sxs)
  | for_ (tg : Tg) (it : It) (b : Sxs)
  | pass
  | never
inductive Sxs where
  | nil
  | cons (s : Sx) (r : Sxs)
  | gho (r : Sxs)
end

/-! ### what operations ask, by values -/
def i2 (x y : D) (k : Int → Int → Prop) : Prop := match x, y with
  | .int i, .int j => k i j
  | _, _ => False
/-- a new list: told as a tree, or as a cell -/
def newL (k : Bool) (l : List D) (M : MM) (Q : PQ) : Prop :=
  l.length ≤ sizeLine ∧ match k with
  | false => Q (.lst l) M
  | true => ∀ p, M p = none → Q (.cell p) (put M p (.lst l))
def catW (k : Bool) (x y : D) (M : MM) (Q : PQ) : Prop := match lstT M x, lstT M y with
  | some l, some r => newL k (l ++ r) M Q
  | _, _ => False
def addW (x y : D) (M : MM) (Q : PQ) : Prop := match x, y with
  | .int i, .int j => Q (.int (i + j)) M
  | .str i, .str j => i.length + j.length ≤ sizeLine ∧ Q (.str (i ++ j)) M
  | .tup l, .tup r => l.length + r.length ≤ sizeLine ∧ Q (.tup (l ++ r)) M
  | x, y => catW false x y M Q
def mulW (x y : D) (M : MM) (Q : PQ) : Prop := match x, y with
  | .int i, .int j => CMul i j ∧ Q (.int (i * j)) M
  | x, .int k => (match lstT M x with
    | some l => -(2 ^ 63) ≤ k ∧ k < 2 ^ 63 ∧ l.length * k.toNat ≤ sizeLine ∧ newL false (List.replicate k.toNat l).flatten M Q
    | none => False)
  | _, _ => False
/-- a list so many times -/
def repW (k : Bool) (x y : D) (M : MM) (Q : PQ) : Prop := match lstT M x, y with
  | some l, .int n => -(2 ^ 63) ≤ n ∧ n < 2 ^ 63 ∧ l.length * n.toNat ≤ sizeLine ∧ newL k (List.replicate n.toNat l).flatten M Q
  | _, _ => False
/-- == : of ints, bools, texts, None at once; else by the data that both are -/
def eqW (neg : Bool) (x y : D) (M : MM) (Q : PQ) : Prop := match x, y with
  | .int i, .int j => Q (.bl (neg ^^ decide (i = j))) M
  | .bl i, .bl j => Q (.bl (neg ^^ decide (i = j))) M
  | .str i, .str j => Q (.bl (neg ^^ decide (i = j))) M
  | x, y => ∃ d e, py M x = some d ∧ py M y = some e ∧ SeqAt.shaped d = true ∧ SeqAt.shaped e = true ∧ Q (.bl (neg ^^ PyData.eqv d e)) M
/-- in: of a dict, of a list or tuple by the data -/
def inW (neg : Bool) (x y : D) (M : MM) (Q : PQ) : Prop :=
  (∃ r, dLook M y x = some r ∧ Q (.bl (neg ^^ r.isSome)) M) ∨
  (∃ i l ns, x = .int i ∧ seqOf M y = some l ∧ intsOf l = some ns ∧ Q (.bl (neg ^^ decide (i ∈ ns))) M) ∨
  (∃ l d ds, lstOf M y = some l ∧ py M x = some d ∧ pyAll (pyCell M 8) l = some ds ∧ SeqAt.shaped d = true ∧ SeqAt.shaped (.list ds) = true ∧ Q (.bl (neg ^^ ds.any fun z => PyData.eqv z d)) M)
def idxW (x y : D) (M : MM) (Q : PQ) : Prop :=
  (∃ r, dLook M x y = some (some r) ∧ Q r M) ∨
  (∃ l i r, seqOf M x = some l ∧ y = .int i ∧ ixD l i = some r ∧ Q r M) ∨
  (∃ (z : Str) (i : Int) (c : Nat), x = .str z ∧ y = .int i ∧ z.length ≤ sizeLine ∧ atI z.cps.toList i = some c ∧ Q (.str ⟨#[c]⟩) M)
def lenW (x : D) (M : MM) (Q : PQ) : Prop :=
  (∃ l, seqOf M x = some l ∧ Q (.int l.length) M) ∨ (∃ l, dctOf M x = some l ∧ Q (.int l.length) M) ∨ (∃ z : Str, x = .str z ∧ z.length ≤ sizeLine ∧ Q (.int z.length) M)
def tyNm (M : MM) : D → Option String
  | .non => some "NoneType"
  | .bl _ => some "bool"
  | .int _ => some "int"
  | .str _ => some "str"
  | .tup _ => some "tuple"
  | .lst _ => some "list"
  | .dct _ _ => some "dict"
  | .dtt _ _ => some "dict"
  | .cell a => match M a with
    | some (.lst _) => some "list"
    | some (.dK _) => some "dict"
    | some (.dT _) => some "dict"
    | _ => none
  | _ => none
def subTy (t c : String) : Bool := decide (t = c) || (decide (t = "bool") && decide (c = "int"))
def knownTy (c : String) : Bool := decide (c = "int") || decide (c = "bool") || decide (c = "str") || decide (c = "tuple") || decide (c = "list") || decide (c = "dict")
def isiW (x c : D) (M : MM) (Q : PQ) : Prop := match tyNm M x, c with
  | some t, .ty n => knownTy n = true ∧ Q (.bl (subTy t n)) M
  | some t, .tup [.ty n, .ty m] => knownTy n = true ∧ knownTy m = true ∧ Q (.bl (subTy t n || subTy t m)) M
  | _, _ => False
def sortedW (k : Bool) (x : D) (M : MM) (Q : PQ) : Prop :=
  (∃ l ns, lstOf M x = some l ∧ intsOf l = some ns ∧ newL k ((isort ns).map .int) M Q) ∨
  (∃ l ps, lstT M x = some l ∧ pairsOf l = some ps ∧ newL k ((psort ps).map pr) M Q)
def listW (k : Bool) (x : D) (M : MM) (Q : PQ) : Prop :=
  (∃ l, seqOf M x = some l ∧ newL k l M Q) ∨ (∃ l, dctOf M x = some l ∧ newL k (l.map fun kv => match kv.1 with
    | .inl i => .int i
    | .inr s => .str s) M Q)
/-- of a list or a tuple -/
def intsS (x : D) (M : MM) (k : List Int → Prop) : Prop := ∃ l ns, seqOf M x = some l ∧ intsOf l = some ns ∧ k ns
def intsW (x : D) (M : MM) (k : List Int → Prop) : Prop := ∃ l ns, lstOf M x = some l ∧ intsOf l = some ns ∧ k ns
def rangeD (n : Nat) : List D := (List.range n).map fun (k : Nat) => D.int (k : Int)
def opW (o : Op) (ds : List D) (M : MM) (Q : PQ) : Prop := match o, ds with
  | .add, [x, y] => addW x y M Q
  | .addK, [x, y] => catW true x y M Q
  | .sub, [x, y] => i2 x y fun i j => Q (.int (i - j)) M
  | .mul, [x, y] => mulW x y M Q
  | .fdiv, [x, y] => i2 x y fun i j => CDiv i j ∧ Q (.int (i / j)) M
  | .mod, [x, y] => i2 x y fun i j => 0 < j ∧ Q (.int (i % j)) M
  | .pow, [x, y] => i2 x y fun i j => CPow i j ∧ Q (.int (i ^ j.toNat)) M
  | .shl, [x, y] => i2 x y fun i j => CPow i j ∧ Q (.int (i * 2 ^ j.toNat)) M
  | .shr, [x, y] => i2 x y fun i j => 0 ≤ j ∧ Q (.int (i / 2 ^ j.toNat)) M
  | .band, [x, y] => i2 x y fun i j => Q (.int (Builtin.bitAnd i j)) M
  | .neg, [.int i] => Q (.int (-i)) M
  | .eq, [x, y] => eqW false x y M Q
  | .ne, [x, y] => eqW true x y M Q
  | .lt, [x, y] => i2 x y fun i j => Q (.bl (decide (i < j))) M
  | .le, [x, y] => i2 x y fun i j => Q (.bl (decide (i ≤ j))) M
  | .gt, [x, y] => i2 x y fun i j => Q (.bl (decide (j < i))) M
  | .ge, [x, y] => i2 x y fun i j => Q (.bl (decide (j ≤ i))) M
  | .isN, [x, .non] => Q (.bl (match x with
    | .non => true
    | _ => false)) M
  | .notN, [x, .non] => Q (.bl (match x with
    | .non => false
    | _ => true)) M
  | .isB, [.bl a, .bl b] => Q (.bl (decide (a = b))) M
  | .notB, [.bl a, .bl b] => Q (.bl (!decide (a = b))) M
  | .inn, [x, y] => inW false x y M Q
  | .notIn, [x, y] => inW true x y M Q
  | .idx, [x, y] => idxW x y M Q
  | .len, [x] => lenW x M Q
  | .abs, [.int i] => Q (.int (if i < 0 then -i else i)) M
  | .max2, [x, y] => i2 x y fun i j => Q (.int (max i j)) M
  | .min2, [x, y] => i2 x y fun i j => Q (.int (min i j)) M
  | .int1, [.int i] => Q (.int i) M
  | .int1, [.bl b] => Q (.int (if b then 1 else 0)) M
  | .tuple1, [x] => (match seqOf M x with
    | some l => Q (.tup l) M
    | none => False)
  | .list1 k, [x] => listW k x M Q
  | .sorted1 k, [x] => sortedW k x M Q
  | .sum1, [x] => intsW x M fun ns => Q (.int ns.sum) M
  | .max1, [x] => intsS x M fun ns => ns ≠ [] ∧ Q (.int (imax ns)) M
  | .min1, [x] => intsS x M fun ns => ns ≠ [] ∧ Q (.int (imin ns)) M
  | .all1, [x] => (∃ l bs, lstOf M x = some l ∧ blsOf l = some bs ∧ Q (.bl (bs.all id)) M)
  | .isinst, [x, c] => isiW x c M Q
  | .tup, ds => ds.length ≤ sizeLine ∧ Q (.tup ds) M
  | .lst k, ds => newL k ds M Q
  | .mulK, [x, y] => repW true x y M Q
  | .rev k, [x] => (match lstOf M x with
    | some l => newL k l.reverse M Q
    | none => False)
  | .sset k, [x] => intsS x M fun ns => ns.length < 64 ∧ newL k ((sset ns).map .int) M Q
  | .lset, [x] => intsS x M fun ns => ns.length < 4000 ∧ Q (.int (ded ns).length) M
  | .lrng k, [.int n] => (0 ≤ n ∧ n < 2 ^ 20) ∧ newL k (rangeD n.toNat) M Q
  | _, _ => False
/-- methods: the receiver is looked at ahead of the arguments -/
def mtTy (m : Mt) (x : D) (M : MM) : Prop := ∃ a l, x = .cell a ∧ M a = some (.lst l)
def mtW (m : Mt) (x : D) (ds : List D) (M : MM) (Q : PQ) : Prop := ∃ a l, x = .cell a ∧ M a = some (.lst l) ∧ match m, ds with
  | .append, [y] => l.length < sizeLine ∧ Q .non (put M a (.lst (l ++ [y])))
  | .extend, [y] => (match lstT M y with
    | some r => l.length + r.length ≤ sizeLine ∧ Q .non (put M a (.lst (l ++ r)))
    | none => False)
  | .insert, [.int i, y] => l.length < sizeLine ∧ 0 ≤ i ∧ i < 2 ^ 63 ∧ Q .non (put M a (.lst (l.take i.toNat ++ [y] ++ l.drop i.toNat)))
  | .pop, [] => (match l[l.length - 1]? with
    | some y => Q y (put M a (.lst l.dropLast))
    | none => False)
  | .popAt, [.int i] => -(2 ^ 63) ≤ i ∧ i < 2 ^ 63 ∧ (match seqIndex? i l.length with
    | some k => (match l[k]? with
      | some y => Q y (put M a (.lst (l.eraseIdx k)))
      | none => False)
    | none => False)
  | .clear, [] => Q .non (put M a (.lst []))
  | _, _ => False
/-- o[i] = v -/
def setW (x y v : D) (M : MM) (Q : MM → Prop) : Prop := match x with
  | .cell a => (match M a with
    | some (.lst l) => (match y with
      | .int i => (match ixN l.length i with
        | some j => Q (put M a (.lst (l.set j v)))
        | none => False)
      | _ => False)
    | some (.dK kvs) => (match keyOf y with
      | some k => kvs.length < sizeLine ∧ Q (put M a (.dK (dPut kvs k v)))
      | none => False)
    | some (.dT kvs) => (match y with
      | .tup l => (match keysOf l with
        | some k => kvs.length < sizeLine ∧ Q (put M a (.dT (dPut kvs k v)))
        | none => False)
      | _ => False)
    | _ => False)
  | _ => False
/-- truth -/
def truW (x : D) (M : MM) (k : Bool → Prop) : Prop := match x with
  | .bl b => k b
  | .int i => k (i != 0)
  | .non => k false
  | _ => False
/-- e[lo:hi] -/
def part : Bool → D → Option (Option Int)
  | true, .non => some none
  | false, .int i => some (some i)
  | _, _ => none
def isAbs : Ex → Bool
  | .absent => true
  | _ => false
def cutD (l : List D) (lo hi : Option Int) : List D := (l.drop (HT.sIx l.length 0 lo)).take (HT.sIx l.length l.length hi - HT.sIx l.length 0 lo)
def sliceW (k : Bool) (x : D) (lo hi : Option Int) (M : MM) (Q : PQ) : Prop := match x with
  | .tup l => Q (.tup (cutD l lo hi)) M
  | x => (match lstOf M x with
    | some l => newL k (cutD l lo hi) M Q
    | none => False)

/-! ### targets, walks -/
mutual
def bindT : Tg → D → Env → MM → (Env → Prop) → Prop
  | .nm i, d, env, _, k => k (env.set i (some d))
  | .tp ts, d, env, M, k => match seqOf M d with
    | some l => bindTs ts l env M k
    | none => False
def bindTs : List Tg → List D → Env → MM → (Env → Prop) → Prop
  | [], [], env, _, k => k env
  | t :: ts, d :: ds, env, M, k => bindT t d env M fun env' => bindTs ts ds env' M k
  | _, _, _, _, _ => False
end
mutual
def tgSlots : Tg → List Nat
  | .nm i => [i]
  | .tp ts => tgsSlots ts
def tgsSlots : List Tg → List Nat
  | [] => []
  | t :: ts => tgSlots t ++ tgsSlots ts
end
def wipeD (env : Env) : List Nat → Env
  | [] => env
  | v :: vs => (wipeD env vs).set v none
/-- the list that is walked must stand -/
def guard (d : D) (l : List D) (M : MM) : Prop := match d with
  | .cell a => M a = some (.lst l)
  | _ => True
/-- what a for walks: a text sign by sign, else the items -/
def itOf (M : MM) (d : D) : Option (List D) := match d with
  | .str z => some (z.cps.toList.map fun c => D.str ⟨#[c]⟩)
  | d => seqOf M d
def forL (g : MM → Prop) (step : D → Env → MM → (Env → MM → Prop) → Prop) (done : Env → MM → Prop) : List D → Env → MM → Prop
  | [], env, M => g M ∧ done env M
  | x :: xs, env, M => g M ∧ step x env M (forL g step done xs)
def compL (g : MM → Prop) (step : D → MM → (Option D → MM → Prop) → Prop) (p : Addr) (done : List D → MM → Prop) : List D → List D → MM → Prop
  | [], acc, M => g M ∧ M p = some (.lst acc) ∧ done acc M
  | x :: xs, acc, M => g M ∧ step x M fun r M' => match r with
    | none => compL g step p done xs acc M'
    | some d => M' p = some (.lst acc) ∧ acc.length < sizeLine ∧ compL g step p done xs (acc ++ [d]) (put M' p (.lst (acc ++ [d])))
def whlN (t : Env → MM → PB → Prop) (b : Env → MM → (Env → MM → Prop) → Prop) (done : Env → MM → Prop) : Nat → Env → MM → Prop
  | 0, _, _ => False
  | n + 1, env, M => t env M fun k M1 => match k with
    | true => b env M1 (whlN t b done n)
    | false => done env M1
def rangeL (lo : Int) (n : Nat) : List D := (List.range n).map fun (k : Nat) => D.int (lo + (k : Int))
def enumL (l : List D) : List D := l.zipIdx.map fun p => D.tup [.int p.2, p.1]
def zipL (l r : List D) : List D := (l.zip r).map fun p => D.tup [p.1, p.2]

/-! ### expressions -/
structure Post where
  nx : Env → MM → Prop
  rt : PQ
  xc : Xc → Env → MM → Prop
section
variable (C : CallSem) (G : Str → Option D)
mutual
def wE : Ex → Env → MM → PQ → XQ → Prop
  | .var i, env, M, Q, _ => match env[i]? with
    | some (some d) => Q d M
    | _ => False
  | .lit l, _, M, Q, _ => Q l.d M
  | .glob x, _, M, Q, _ => match G x with
    | some d => Q d M
    | none => False
  | .op o es, env, M, Q, E => wEs es env M (fun ds M1 => opW o ds M1 Q) E
  | .mth m o es, env, M, Q, E => wE o env M (fun x M1 => mtTy m x M1 ∧ wEs es env M1 (fun ds M2 => mtW m x ds M2 Q) E) E
  | .bool k es, env, M, Q, E => wBo k es env M Q E
  | .not_ a, env, M, Q, E => wE a env M (fun x M1 => match x with
    | .bl b => Q (.bl (!b)) M1
    | _ => False) E
  | .ite c a b, env, M, Q, E => wT c env M (fun k M1 => match k with
    | true => wE a env M1 Q E
    | false => wE b env M1 Q E) E
  | .chain o p a b c, env, M, Q, E => wE a env M (fun x M1 => wE b env M1 (fun y M2 => opW o [x, y] M2 fun z M3 => match z with
    | .bl true => wE c env M3 (fun u M4 => opW p [y, u] M4 Q) E
    | .bl false => Q (.bl false) M3
    | _ => False) E) E
  | .call f es, env, M, Q, E => wEs es env M (fun ds M1 => C f ds M1 Q E) E
  | .slice k e lo hi, env, M, Q, E => wE e env M (fun x M1 => wE lo env M1 (fun a M2 => match part (isAbs lo) a with
    | some l => wE hi env M2 (fun b M3 => match part (isAbs hi) b with
      | some h => sliceW k x l h M3 Q
      | none => False) E
    | none => False) E) E
  | .absent, _, M, Q, _ => Q .non M
  | .comp k elt tg it ifs, env, M, Q, E => wI it env M (fun l g M1 => ∀ p, M1 p = none →
      compL g (fun x M2 kk => bindT tg x (wipeD env (tgSlots tg)) M2 fun env2 => wIfs ifs env2 M2 fun b M3 => match b with
        | true => wE elt env2 M3 (fun d M4 => kk (some d) M4) (fun _ _ => False)
        | false => kk none M3) p (fun acc M2 => match k with
          | true => Q (.cell p) M2
          | false => Q (.lst acc) (del M2 p)) l [] (put M1 p (.lst []))) E
  | .dict k es, env, M, Q, E => ∀ p, M p = none → wDi es env (put M p (.dK [])) (fun kvs M1 => M1 p = some (.dK []) ∧ match k with
    | true => Q (.cell p) (put M1 p (.dK (dMerge [] kvs)))
    | false => Q (.dct ((dMerge [] kvs).map (·.1)) ((dMerge [] kvs).map (·.2))) (del M1 p)) E
def wEs : Exs → Env → MM → PL → XQ → Prop
  | .nil, _, M, Q, _ => Q [] M
  | .cons e es, env, M, Q, E => wE e env M (fun d M1 => wEs es env M1 (fun ds M2 => Q (d :: ds) M2) E) E
/-- the entries of a dict: key, value, key, value .. -/
def wDi : Exs → Env → MM → (List (Key × D) → MM → Prop) → XQ → Prop
  | .nil, _, M, Q, _ => Q [] M
  | .cons _ .nil, _, _, _, _ => False
  | .cons k (.cons v r), env, M, Q, E => wE k env M (fun x M1 => wE v env M1 (fun y M2 => wDi r env M2 (fun kvs M3 => match keyOf x with
    | some k => Q ((k, y) :: kvs) M3
    | none => False) E) E) E
/-- and, or: all but the last are truths -/
def wBo (k : Bool) : Exs → Env → MM → PQ → XQ → Prop
  | .nil, _, _, _, _ => False
  | .cons e .nil, env, M, Q, E => wE e env M Q E
  | .cons e (.cons f es), env, M, Q, E => wE e env M (fun x M1 => match x with
    | .bl b => (match b == k with
      | true => wBo k (.cons f es) env M1 Q E
      | false => Q (.bl b) M1)
    | _ => False) E
/-- a test -/
def wT : Tx → Env → MM → PB → XQ → Prop
  | .val e, env, M, Q, E => wE e env M (fun x M1 => truW x M1 fun k => Q k M1) E
  | .cmp o a b, env, M, Q, E => wE a env M (fun x M1 => wE b env M1 (fun y M2 => opW o [x, y] M2 fun z M3 => match z with
    | .bl k => Q k M3
    | _ => False) E) E
  | .chain o p a b c, env, M, Q, E => wE a env M (fun x M1 => wE b env M1 (fun y M2 => opW o [x, y] M2 fun z M3 => match z with
    | .bl true => wE c env M3 (fun u M4 => opW p [y, u] M4 fun z M5 => match z with
      | .bl k => Q k M5
      | _ => False) E
    | .bl false => Q false M3
    | _ => False) E) E
  | .not_ a, env, M, Q, E => wT a env M (fun k M1 => Q (!k) M1) E
  | .bool k es, env, M, Q, E => wBt k es env M Q E
def wBt (k : Bool) : Txs → Env → MM → PB → XQ → Prop
  | .nil, _, _, _, _ => False
  | .cons e .nil, env, M, Q, E => wT e env M Q E
  | .cons e (.cons f es), env, M, Q, E => wT e env M (fun b M1 => match b == k with
    | true => wBt k (.cons f es) env M1 Q E
    | false => Q b M1) E
/-- the ifs of a comprehension: none or one -/
def wIfs : Txs → Env → MM → PB → Prop
  | .nil, _, M, Q => Q true M
  | .cons e .nil, env, M, Q => wT e env M Q (fun _ _ => False)
  | .cons _ (.cons _ _), _, _, _ => False
def wI : It → Env → MM → (List D → (MM → Prop) → MM → Prop) → XQ → Prop
  | .seq e, env, M, K, E => wE e env M (fun d M1 => match itOf M1 d with
    | some l => K l (guard d l) M1
    | none => False) E
  | .rng1 a, env, M, K, E => wE a env M (fun d M1 => match d with
    | .int n => -(2 ^ 62) ≤ n ∧ n < 2 ^ 62 ∧ K (rangeL 0 n.toNat) (fun _ => True) M1
    | _ => False) E
  | .rng2 a b, env, M, K, E => wE a env M (fun d M1 => wE b env M1 (fun e M2 => i2 d e fun i j =>
    (-(2 ^ 62) ≤ i ∧ i < 2 ^ 62 ∧ -(2 ^ 62) ≤ j ∧ j < 2 ^ 62) ∧ K (rangeL i (j - i).toNat) (fun _ => True) M2) E) E
  | .enum e, env, M, K, E => wE e env M (fun d M1 => match seqOf M1 d with
    | some l => K (enumL l) (guard d l) M1
    | none => False) E
  | .zip a b, env, M, K, E => wE a env M (fun d M1 => wE b env M1 (fun e M2 => match lstOf M2 d, lstOf M2 e with
    | some l, some r => K (zipL l r) (fun M => guard d l M ∧ guard e r M) M2
    | _, _ => False) E) E
end

/-! ### statements -/
mutual
def wS : Sx → Env → MM → Post → Prop
  | .asg i e, env, M, D => wE C G e env M (fun d M1 => D.nx (env.set i (some d)) M1) (fun x M1 => D.xc x env M1)
  | .asgT tg e, env, M, D => wE C G e env M (fun d M1 => bindT tg d env M1 fun env1 => D.nx env1 M1) (fun x M1 => D.xc x env M1)
  | .asgSub o i e, env, M, D => wE C G e env M (fun v M1 => wE C G o env M1 (fun x M2 => wE C G i env M2 (fun y M3 => setW x y v M3 fun M4 => D.nx env M4)
      (fun x M1 => D.xc x env M1)) (fun x M1 => D.xc x env M1)) (fun x M1 => D.xc x env M1)
  | .expr e, env, M, D => wE C G e env M (fun _ M1 => D.nx env M1) (fun x M1 => D.xc x env M1)
  | .ret false e, env, M, D => wE C G e env M (fun d M1 => D.rt d M1) (fun x M1 => D.xc x env M1)
  | .ret true e, env, M, D => wE C G e env M (fun d M1 => ∃ t M2, MSub M2 M1 ∧ Fz M1 M2 d t ∧ D.rt t M2) (fun x M1 => D.xc x env M1)
  | .retN, env, M, D => D.rt .non M
  | .ite c a b, env, M, D => wT C G c env M (fun k M1 => match k with
    | true => wSs a env M1 D
    | false => wSs b env M1 D) (fun x M1 => D.xc x env M1)
  | .whl c b, env, M, D => ∃ n, whlN (fun env M Q => wT C G c env M Q (fun x M1 => D.xc x env M1)) (fun env M k => wSs b env M { D with nx := k }) D.nx n env M
  | .for_ tg it b, env, M, D => wI C G it env M (fun l g M1 => forL g (fun x env M k => bindT tg x env M fun env1 => wSs b env1 M { D with nx := k }) D.nx l env M1) (fun x M1 => D.xc x env M1)
  | .pass, env, M, D => D.nx env M
  | .never, _, _, _ => False
def wSs : Sxs → Env → MM → Post → Prop
  | .nil, env, M, D => D.nx env M
  | .cons s r, env, M, D => wS s env M { D with nx := fun env1 M1 => wSs r env1 M1 D }
  | .gho r, env, M, D => ∃ env1 M1, MSub M1 M ∧ FzE M M1 env env1 ∧ wSs r env1 M1 D
end
end
/-- a def: its parameters, all its names, its body -/
structure Df where
  ps : List Str
  N : List Str
  body : Sxs
abbrev Tab := List (Str × Df)
def startD (N : List Str) (ds : List D) : Env := ds.map some ++ List.replicate (N.length - ds.length) none
/-- a call of a def -/
def wDf (C : CallSem) (G : Str → Option D) (d : Df) (ds : List D) (M : MM) (Q : PQ) (E : XQ) : Prop :=
  ds.length = d.ps.length ∧ wSs C G d.body (startD d.N ds) M { nx := fun _ M1 => Q .non M1, rt := Q, xc := fun x _ M1 => E x M1 }
def callN (T : Tab) (G : Str → Option D) : Nat → CallSem
  | 0 => fun _ _ _ _ _ => False
  | n + 1 => fun f ds M Q E => match T.lookup f with
    | some d => wDf (callN T G n) G d ds M Q E
    | none => False
end Z

set_option Elab.async false
set_option linter.all false
set_option maxRecDepth 100000
/-! Z2: what is asked is monotone in what is wanted. -/
namespace Z
open PySem L2
def CMono (C : CallSem) : Prop := ∀ f ds M (Q Q' : PQ) (E E' : XQ), C f ds M Q E → (∀ d M, Q d M → Q' d M) → (∀ x M, E x M → E' x M) → C f ds M Q' E'
section
variable {Q Q' : PQ} {M : MM}
theorem i2_mono {x y : D} {k k' : Int → Int → Prop} (h : i2 x y k) (q : ∀ i j, k i j → k' i j) : i2 x y k' := by
  unfold i2 at h ⊢
  split at h <;> first | exact q _ _ h | exact h
theorem newL_mono {k : Bool} {l : List D} (h : newL k l M Q) (q : ∀ d M, Q d M → Q' d M) : newL k l M Q' := by
  refine ⟨h.1, ?_⟩
  have h2 := h.2
  cases k with
  | false => exact q _ _ h2
  | true => exact fun p hp => q _ _ (h2 p hp)
theorem catW_mono {k : Bool} {x y : D} (h : catW k x y M Q) (q : ∀ d M, Q d M → Q' d M) : catW k x y M Q' := by
  unfold catW at h ⊢
  split at h <;> first | exact newL_mono h q | exact h
theorem addW_mono {x y : D} (h : addW x y M Q) (q : ∀ d M, Q d M → Q' d M) : addW x y M Q' := by
  unfold addW at h ⊢
  split at h <;> first | exact q _ _ h | exact ⟨h.1, q _ _ h.2⟩ | exact catW_mono h q
theorem mulW_mono {x y : D} (h : mulW x y M Q) (q : ∀ d M, Q d M → Q' d M) : mulW x y M Q' := by
  unfold mulW at h ⊢
  split at h
  · exact ⟨h.1, q _ _ h.2⟩
  · split at h
    · exact ⟨h.1, h.2.1, h.2.2.1, newL_mono h.2.2.2 q⟩
    · exact h
  · exact h
theorem eqW_mono {n : Bool} {x y : D} (h : eqW n x y M Q) (q : ∀ d M, Q d M → Q' d M) : eqW n x y M Q' := by
  unfold eqW at h ⊢
  split at h <;> first | exact q _ _ h | (obtain ⟨d, e, h1, h2, h3, h4, h5⟩ := h; exact ⟨d, e, h1, h2, h3, h4, q _ _ h5⟩)
theorem inW_mono {n : Bool} {x y : D} (h : inW n x y M Q) (q : ∀ d M, Q d M → Q' d M) : inW n x y M Q' := by
  rcases h with ⟨r, h1, h2⟩ | ⟨i, l, ns, h1, h2, h3, h4⟩ | ⟨l, d, ds, h1, h2, h3, h4, h5, h6⟩
  · exact .inl ⟨r, h1, q _ _ h2⟩
  · exact .inr (.inl ⟨i, l, ns, h1, h2, h3, q _ _ h4⟩)
  · exact .inr (.inr ⟨l, d, ds, h1, h2, h3, h4, h5, q _ _ h6⟩)
theorem idxW_mono {x y : D} (h : idxW x y M Q) (q : ∀ d M, Q d M → Q' d M) : idxW x y M Q' := by
  rcases h with ⟨r, h1, h2⟩ | ⟨l, i, r, h1, h2, h3, h4⟩ | ⟨z, i, c, h1, h2, h3, h4, h5⟩
  · exact .inl ⟨r, h1, q _ _ h2⟩
  · exact .inr (.inl ⟨l, i, r, h1, h2, h3, q _ _ h4⟩)
  · exact .inr (.inr ⟨z, i, c, h1, h2, h3, h4, q _ _ h5⟩)
theorem lenW_mono {x : D} (h : lenW x M Q) (q : ∀ d M, Q d M → Q' d M) : lenW x M Q' := by
  rcases h with ⟨l, h1, h2⟩ | ⟨l, h1, h2⟩ | ⟨z, h1, h2, h3⟩
  · exact .inl ⟨l, h1, q _ _ h2⟩
  · exact .inr (.inl ⟨l, h1, q _ _ h2⟩)
  · exact .inr (.inr ⟨z, h1, h2, q _ _ h3⟩)
theorem isiW_mono {x y : D} (h : isiW x y M Q) (q : ∀ d M, Q d M → Q' d M) : isiW x y M Q' := by
  unfold isiW at h ⊢
  split at h <;> first | exact ⟨h.1, q _ _ h.2⟩ | exact ⟨h.1, h.2.1, q _ _ h.2.2⟩ | exact h
theorem sortedW_mono {k : Bool} {x : D} (h : sortedW k x M Q) (q : ∀ d M, Q d M → Q' d M) : sortedW k x M Q' := by
  rcases h with ⟨l, ns, h1, h2, h3⟩ | ⟨l, ns, h1, h2, h3⟩
  · exact .inl ⟨l, ns, h1, h2, newL_mono h3 q⟩
  · exact .inr ⟨l, ns, h1, h2, newL_mono h3 q⟩
theorem listW_mono {k : Bool} {x : D} (h : listW k x M Q) (q : ∀ d M, Q d M → Q' d M) : listW k x M Q' := by
  rcases h with ⟨l, h1, h2⟩ | ⟨l, h1, h2⟩
  · exact .inl ⟨l, h1, newL_mono h2 q⟩
  · exact .inr ⟨l, h1, newL_mono h2 q⟩
theorem intsS_mono {x : D} {k k' : List Int → Prop} (h : intsS x M k) (q : ∀ l, k l → k' l) : intsS x M k' := by
  obtain ⟨l, ns, h1, h2, h3⟩ := h
  exact ⟨l, ns, h1, h2, q _ h3⟩
theorem intsW_mono {x : D} {k k' : List Int → Prop} (h : intsW x M k) (q : ∀ l, k l → k' l) : intsW x M k' := by
  obtain ⟨l, ns, h1, h2, h3⟩ := h
  exact ⟨l, ns, h1, h2, q _ h3⟩
theorem repW_mono {k : Bool} {x y : D} (h : repW k x y M Q) (q : ∀ d M, Q d M → Q' d M) : repW k x y M Q' := by
  unfold repW at h ⊢
  split at h
  · exact ⟨h.1, h.2.1, h.2.2.1, newL_mono h.2.2.2 q⟩
  · exact h
theorem opW_mono {o : Op} {ds : List D} (h : opW o ds M Q) (q : ∀ d M, Q d M → Q' d M) : opW o ds M Q' := by
  unfold opW at h ⊢
  split at h <;> first
    | exact h.elim
    | exact q _ _ h
    | exact ⟨h.1, q _ _ h.2⟩
    | exact i2_mono h fun i j z => q _ _ z
    | exact i2_mono h fun i j z => ⟨z.1, q _ _ z.2⟩
    | exact addW_mono h q
    | exact catW_mono h q
    | exact mulW_mono h q
    | exact eqW_mono h q
    | exact inW_mono h q
    | exact repW_mono h q
    | exact idxW_mono h q
    | exact lenW_mono h q
    | exact isiW_mono h q
    | exact sortedW_mono h q
    | exact listW_mono h q
    | exact newL_mono h q
    | exact intsW_mono h fun l z => q _ _ z
    | exact intsS_mono h fun l z => ⟨z.1, q _ _ z.2⟩
    | exact intsS_mono h fun l z => ⟨z.1, newL_mono z.2 q⟩
    | exact ⟨h.1, newL_mono h.2 q⟩
    | (split at h <;> first | exact q _ _ h | exact newL_mono h q | exact h)
    | (obtain ⟨l, bs, h1, h2, h3⟩ := h; exact ⟨l, bs, h1, h2, q _ _ h3⟩)
theorem mtW_mono {m : Mt} {x : D} {ds : List D} (h : mtW m x ds M Q) (q : ∀ d M, Q d M → Q' d M) : mtW m x ds M Q' := by
  obtain ⟨a, l, h1, h2, h⟩ := h
  refine ⟨a, l, h1, h2, ?_⟩
  split at h <;> first
    | exact h.elim
    | exact q _ _ h
    | exact ⟨h.1, q _ _ h.2⟩
    | exact ⟨h.1, h.2.1, h.2.2.1, q _ _ h.2.2.2⟩
    | (split at h <;> first | exact ⟨h.1, q _ _ h.2⟩ | exact q _ _ h | exact h)
    | (refine ⟨h.1, h.2.1, ?_⟩; replace h := h.2.2; split at h <;> first | exact h.elim | (split at h <;> first | exact q _ _ h | exact h))
theorem setW_mono {x y v : D} {k k' : MM → Prop} (h : setW x y v M k) (q : ∀ M, k M → k' M) : setW x y v M k' := by
  unfold setW at h ⊢
  split at h
  · split at h
    · split at h
      · split at h
        · exact q _ h
        · exact h
      · exact h
    · split at h
      · exact ⟨h.1, q _ h.2⟩
      · exact h
    · split at h
      · split at h
        · exact ⟨h.1, q _ h.2⟩
        · exact h
      · exact h
    · exact h
  · exact h
theorem truW_mono {x : D} {k k' : Bool → Prop} (h : truW x M k) (q : ∀ b, k b → k' b) : truW x M k' := by
  unfold truW at h ⊢
  split at h <;> first | exact q _ h | exact h
theorem sliceW_mono {k : Bool} {x : D} {a b : Option Int} (h : sliceW k x a b M Q) (q : ∀ d M, Q d M → Q' d M) : sliceW k x a b M Q' := by
  unfold sliceW at h ⊢
  split at h
  · exact q _ _ h
  · split at h
    · exact newL_mono h q
    · exact h
end
mutual
theorem bindT_mono : ∀ (t : Tg) {d : D} {env : Env} {M : MM} {k k' : Env → Prop}, bindT t d env M k → (∀ e, k e → k' e) → bindT t d env M k'
  | .nm i, _, _, _, _, _, h, q => by
    simp only [bindT] at h ⊢
    exact q _ h
  | .tp ts, d, env, M, k, k', h, q => by
    simp only [bindT] at h ⊢
    split at h
    · exact bindTs_mono ts h q
    · exact h
theorem bindTs_mono : ∀ (ts : List Tg) {ds : List D} {env : Env} {M : MM} {k k' : Env → Prop}, bindTs ts ds env M k → (∀ e, k e → k' e) → bindTs ts ds env M k'
  | [], [], _, _, _, _, h, q => by
    simp only [bindTs] at h ⊢
    exact q _ h
  | [], _ :: _, _, _, _, _, h, _ => by simp only [bindTs] at h
  | _ :: _, [], _, _, _, _, h, _ => by simp only [bindTs] at h
  | t :: ts, d :: ds, env, M, k, k', h, q => by
    simp only [bindTs] at h ⊢
    exact bindT_mono t h fun e z => bindTs_mono ts z q
end
theorem forL_mono {g : MM → Prop} {step step' : D → Env → MM → (Env → MM → Prop) → Prop} {done done' : Env → MM → Prop}
    (hs : ∀ x env M k k', step x env M k → (∀ e M, k e M → k' e M) → step' x env M k') (hd : ∀ e M, done e M → done' e M) : ∀ {l : List D} {env : Env} {M : MM}, forL g step done l env M → forL g step' done' l env M
  | [], _, _, h => ⟨h.1, hd _ _ h.2⟩
  | x :: xs, _, _, h => ⟨h.1, hs _ _ _ _ _ h.2 fun e M z => forL_mono hs hd z⟩
theorem compL_mono {g : MM → Prop} {step step' : D → MM → (Option D → MM → Prop) → Prop} {p : Addr} {done done' : List D → MM → Prop}
    (hs : ∀ x M k k', step x M k → (∀ e M, k e M → k' e M) → step' x M k') (hd : ∀ e M, done e M → done' e M) : ∀ {l acc : List D} {M : MM}, compL g step p done l acc M → compL g step' p done' l acc M
  | [], _, _, h => ⟨h.1, h.2.1, hd _ _ h.2.2⟩
  | x :: xs, _, _, h => ⟨h.1, hs _ _ _ _ h.2 fun r M z => by
    cases r with
    | none => exact compL_mono hs hd z
    | some d => exact ⟨z.1, z.2.1, compL_mono hs hd z.2.2⟩⟩
theorem whlN_mono {t t' : Env → MM → PB → Prop} {b b' : Env → MM → (Env → MM → Prop) → Prop} {done done' : Env → MM → Prop}
    (ht : ∀ e M k k', t e M k → (∀ b M, k b M → k' b M) → t' e M k') (hb : ∀ e M k k', b e M k → (∀ e M, k e M → k' e M) → b' e M k') (hd : ∀ e M, done e M → done' e M) :
    ∀ {n : Nat} {env : Env} {M : MM}, whlN t b done n env M → whlN t' b' done' n env M
  | 0, _, _, h => h
  | n + 1, _, _, h => ht _ _ _ _ h fun k M z => by
    cases k with
    | true => exact hb _ _ _ _ z fun e M z => whlN_mono ht hb hd z
    | false => exact hd _ _ z
section
variable {C C' : CallSem} {G : Str → Option D} (hC : ∀ f ds M (Q Q' : PQ) (E E' : XQ), C f ds M Q E → (∀ d M, Q d M → Q' d M) → (∀ x M, E x M → E' x M) → C' f ds M Q' E')
include hC
mutual
theorem wE_mono : ∀ (e : Ex) {env : Env} {M : MM} {Q Q' : PQ} {E E' : XQ}, wE C G e env M Q E → (∀ d M, Q d M → Q' d M) → (∀ x M, E x M → E' x M) → wE C' G e env M Q' E'
  | .var i, _, _, _, _, _, _, h, q, _ => by
    simp only [wE] at h ⊢
    split at h
    · exact q _ _ h
    · exact h
  | .lit l, _, _, _, _, _, _, h, q, _ => by
    simp only [wE] at h ⊢
    exact q _ _ h
  | .glob x, _, _, _, _, _, _, h, q, _ => by
    simp only [wE] at h ⊢
    split at h
    · exact q _ _ h
    · exact h
  | .op o es, _, _, _, _, _, _, h, q, r => by
    simp only [wE] at h ⊢
    exact wEs_mono es h (fun ds M z => opW_mono z q) r
  | .mth m o es, _, _, _, _, _, _, h, q, r => by
    simp only [wE] at h ⊢
    exact wE_mono o h (fun x M z => ⟨z.1, wEs_mono es z.2 (fun ds M z => mtW_mono z q) r⟩) r
  | .bool k es, _, _, _, _, _, _, h, q, r => by
    simp only [wE] at h ⊢
    exact wBo_mono k es h q r
  | .not_ a, _, _, _, _, _, _, h, q, r => by
    simp only [wE] at h ⊢
    exact wE_mono a h (fun x M z => by split at z <;> first | exact q _ _ z | exact z) r
  | .ite c a b, _, _, _, _, _, _, h, q, r => by
    simp only [wE] at h ⊢
    exact wT_mono c h (fun k M z => by cases k <;> first | exact wE_mono a z q r | exact wE_mono b z q r) r
  | .chain o p a b c, _, _, _, _, _, _, h, q, r => by
    simp only [wE] at h ⊢
    exact wE_mono a h (fun x M z => wE_mono b z (fun y M z => opW_mono z fun z' M z => by
      split at z
      · exact wE_mono c z (fun u M z => opW_mono z q) r
      · exact q _ _ z
      · exact z) r) r
  | .call f es, _, _, _, _, _, _, h, q, r => by
    simp only [wE] at h ⊢
    exact wEs_mono es h (fun ds M z => hC _ _ _ _ _ _ _ z q r) r
  | .slice k e lo hi, _, _, _, _, _, _, h, q, r => by
    simp only [wE] at h ⊢
    exact wE_mono e h (fun x M z => wE_mono lo z (fun a M z => by
      split at z
      · exact wE_mono hi z (fun b M z => by split at z <;> first | exact sliceW_mono z q | exact z) r
      · exact z) r) r
  | .absent, _, _, _, _, _, _, h, q, _ => by
    simp only [wE] at h ⊢
    exact q _ _ h
  | .comp k elt tg it ifs, _, _, _, _, _, _, h, q, r => by
    simp only [wE] at h ⊢
    refine wI_mono it h (fun l g M z p hp => ?_) r
    refine compL_mono ?_ ?_ (z p hp)
    · intro x M k1 k2 z zz
      refine bindT_mono tg z fun e z => wIfs_mono ifs z fun b M z => ?_
      cases b with
      | true => exact wE_mono elt z (fun d M z => zz _ _ z) fun _ _ z => z
      | false => exact zz _ _ z
    · intro acc M z
      cases k <;> exact q _ _ z
  | .dict k es, _, _, _, _, _, _, h, q, r => by
    simp only [wE] at h ⊢
    intro p hp
    refine wDi_mono es (h p hp) (fun kvs M z => ⟨z.1, ?_⟩) r
    have z2 := z.2
    cases k <;> exact q _ _ z2
theorem wEs_mono : ∀ (e : Exs) {env : Env} {M : MM} {Q Q' : PL} {E E' : XQ}, wEs C G e env M Q E → (∀ d M, Q d M → Q' d M) → (∀ x M, E x M → E' x M) → wEs C' G e env M Q' E'
  | .nil, _, _, _, _, _, _, h, q, _ => by
    simp only [wEs] at h ⊢
    exact q _ _ h
  | .cons e es, _, _, _, _, _, _, h, q, r => by
    simp only [wEs] at h ⊢
    exact wE_mono e h (fun d M z => wEs_mono es z (fun ds M z => q _ _ z) r) r
theorem wDi_mono : ∀ (e : Exs) {env : Env} {M : MM} {Q Q' : List (Key × D) → MM → Prop} {E E' : XQ}, wDi C G e env M Q E → (∀ d M, Q d M → Q' d M) → (∀ x M, E x M → E' x M) → wDi C' G e env M Q' E'
  | .nil, _, _, _, _, _, _, h, q, _ => by
    simp only [wDi] at h ⊢
    exact q _ _ h
  | .cons _ .nil, _, _, _, _, _, _, h, _, _ => by simp only [wDi] at h
  | .cons k (.cons v es), _, _, _, _, _, _, h, q, r => by
    simp only [wDi] at h ⊢
    exact wE_mono k h (fun x M z => wE_mono v z (fun y M z => wDi_mono es z (fun kvs M z => by split at z <;> first | exact q _ _ z | exact z) r) r) r
theorem wBo_mono (k : Bool) : ∀ (e : Exs) {env : Env} {M : MM} {Q Q' : PQ} {E E' : XQ}, wBo C G k e env M Q E → (∀ d M, Q d M → Q' d M) → (∀ x M, E x M → E' x M) → wBo C' G k e env M Q' E'
  | .nil, _, _, _, _, _, _, h, _, _ => by simp only [wBo] at h
  | .cons e .nil, _, _, _, _, _, _, h, q, r => by
    simp only [wBo] at h ⊢
    exact wE_mono e h q r
  | .cons e (.cons f es), _, _, _, _, _, _, h, q, r => by
    simp only [wBo] at h ⊢
    exact wE_mono e h (fun d M z => by
      split at z
      · rename_i b
        cases hb : (b == k) with
        | true =>
          simp only [hb] at z ⊢
          exact wBo_mono k (.cons f es) z q r
        | false =>
          simp only [hb] at z ⊢
          exact q _ _ z
      · exact z) r
theorem wT_mono : ∀ (e : Tx) {env : Env} {M : MM} {Q Q' : PB} {E E' : XQ}, wT C G e env M Q E → (∀ d M, Q d M → Q' d M) → (∀ x M, E x M → E' x M) → wT C' G e env M Q' E'
  | .val e, _, _, _, _, _, _, h, q, r => by
    simp only [wT] at h ⊢
    exact wE_mono e h (fun x M z => truW_mono z fun k z => q _ _ z) r
  | .cmp o a b, _, _, _, _, _, _, h, q, r => by
    simp only [wT] at h ⊢
    exact wE_mono a h (fun x M z => wE_mono b z (fun y M z => opW_mono z fun z' M z => by split at z <;> first | exact q _ _ z | exact z) r) r
  | .chain o p a b c, _, _, _, _, _, _, h, q, r => by
    simp only [wT] at h ⊢
    exact wE_mono a h (fun x M z => wE_mono b z (fun y M z => opW_mono z fun z' M z => by
      split at z
      · exact wE_mono c z (fun u M z => opW_mono z fun z' M z => by split at z <;> first | exact q _ _ z | exact z) r
      · exact q _ _ z
      · exact z) r) r
  | .not_ a, _, _, _, _, _, _, h, q, r => by
    simp only [wT] at h ⊢
    exact wT_mono a h (fun k M z => q _ _ z) r
  | .bool k es, _, _, _, _, _, _, h, q, r => by
    simp only [wT] at h ⊢
    exact wBt_mono k es h q r
theorem wBt_mono (k : Bool) : ∀ (e : Txs) {env : Env} {M : MM} {Q Q' : PB} {E E' : XQ}, wBt C G k e env M Q E → (∀ d M, Q d M → Q' d M) → (∀ x M, E x M → E' x M) → wBt C' G k e env M Q' E'
  | .nil, _, _, _, _, _, _, h, _, _ => by simp only [wBt] at h
  | .cons e .nil, _, _, _, _, _, _, h, q, r => by
    simp only [wBt] at h ⊢
    exact wT_mono e h q r
  | .cons e (.cons f es), _, _, _, _, _, _, h, q, r => by
    simp only [wBt] at h ⊢
    exact wT_mono e h (fun b M z => by
      cases hb : (b == k) with
      | true =>
        simp only [hb] at z ⊢
        exact wBt_mono k (.cons f es) z q r
      | false =>
        simp only [hb] at z ⊢
        exact q _ _ z) r
theorem wIfs_mono : ∀ (e : Txs) {env : Env} {M : MM} {Q Q' : PB}, wIfs C G e env M Q → (∀ d M, Q d M → Q' d M) → wIfs C' G e env M Q'
  | .nil, _, _, _, _, h, q => by
    simp only [wIfs] at h ⊢
    exact q _ _ h
  | .cons e .nil, _, _, _, _, h, q => by
    simp only [wIfs] at h ⊢
    exact wT_mono e h q fun _ _ z => z
  | .cons _ (.cons _ _), _, _, _, _, h, _ => by simp only [wIfs] at h
theorem wI_mono : ∀ (e : It) {env : Env} {M : MM} {K K' : List D → (MM → Prop) → MM → Prop} {E E' : XQ}, wI C G e env M K E → (∀ l g M, K l g M → K' l g M) → (∀ x M, E x M → E' x M) → wI C' G e env M K' E'
  | .seq e, _, _, _, _, _, _, h, q, r => by
    simp only [wI] at h ⊢
    exact wE_mono e h (fun d M z => by split at z <;> first | exact q _ _ _ z | exact z) r
  | .rng1 e, _, _, _, _, _, _, h, q, r => by
    simp only [wI] at h ⊢
    exact wE_mono e h (fun d M z => by split at z <;> first | exact ⟨z.1, z.2.1, q _ _ _ z.2.2⟩ | exact z) r
  | .rng2 a b, _, _, _, _, _, _, h, q, r => by
    simp only [wI] at h ⊢
    exact wE_mono a h (fun d M z => wE_mono b z (fun e M z => i2_mono z fun i j z => ⟨z.1, q _ _ _ z.2⟩) r) r
  | .enum e, _, _, _, _, _, _, h, q, r => by
    simp only [wI] at h ⊢
    exact wE_mono e h (fun d M z => by split at z <;> first | exact q _ _ _ z | exact z) r
  | .zip a b, _, _, _, _, _, _, h, q, r => by
    simp only [wI] at h ⊢
    exact wE_mono a h (fun d M z => wE_mono b z (fun e M z => by split at z <;> first | exact q _ _ _ z | exact z) r) r
end
structure PostLe (D D' : Post) : Prop where
  nx : ∀ e M, D.nx e M → D'.nx e M
  rt : ∀ d M, D.rt d M → D'.rt d M
  xc : ∀ x e M, D.xc x e M → D'.xc x e M
mutual
theorem wS_mono : ∀ (s : Sx) {env : Env} {M : MM} {P P' : Post}, wS C G s env M P → PostLe P P' → wS C' G s env M P'
  | .asg i e, _, _, _, _, h, q => by
    simp only [wS] at h ⊢
    exact wE_mono hC e h (fun d M z => q.nx _ _ z) fun x M z => q.xc _ _ _ z
  | .asgT tg e, _, _, _, _, h, q => by
    simp only [wS] at h ⊢
    exact wE_mono hC e h (fun d M z => bindT_mono tg z fun e z => q.nx _ _ z) fun x M z => q.xc _ _ _ z
  | .asgSub o i e, _, _, _, _, h, q => by
    simp only [wS] at h ⊢
    exact wE_mono hC e h (fun v M z => wE_mono hC o z (fun x M z => wE_mono hC i z (fun y M z => setW_mono z fun M z => q.nx _ _ z) fun x M z => q.xc _ _ _ z) fun x M z => q.xc _ _ _ z) fun x M z => q.xc _ _ _ z
  | .expr e, _, _, _, _, h, q => by
    simp only [wS] at h ⊢
    exact wE_mono hC e h (fun d M z => q.nx _ _ z) fun x M z => q.xc _ _ _ z
  | .ret false e, _, _, _, _, h, q => by
    simp only [wS] at h ⊢
    exact wE_mono hC e h (fun d M z => q.rt _ _ z) fun x M z => q.xc _ _ _ z
  | .ret true e, _, _, _, _, h, q => by
    simp only [wS] at h ⊢
    exact wE_mono hC e h (fun d M ⟨t, M2, h1, h2, h3⟩ => ⟨t, M2, h1, h2, q.rt _ _ h3⟩) fun x M z => q.xc _ _ _ z
  | .retN, _, _, _, _, h, q => by
    simp only [wS] at h ⊢
    exact q.rt _ _ h
  | .ite c a b, _, _, _, _, h, q => by
    simp only [wS] at h ⊢
    exact wT_mono hC c h (fun k M z => by cases k <;> first | exact wSs_mono a z q | exact wSs_mono b z q) fun x M z => q.xc _ _ _ z
  | .whl c b, _, _, _, _, h, q => by
    simp only [wS] at h ⊢
    obtain ⟨n, h⟩ := h
    refine ⟨n, whlN_mono ?_ ?_ q.nx h⟩
    · intro e M k k' z zz
      exact wT_mono hC c z zz fun x M z => q.xc _ _ _ z
    · intro e M k k' z zz
      exact wSs_mono b z ⟨zz, q.rt, q.xc⟩
  | .for_ tg it b, _, _, _, _, h, q => by
    simp only [wS] at h ⊢
    refine wI_mono hC it h (fun l g M z => forL_mono ?_ q.nx z) fun x M z => q.xc _ _ _ z
    intro x e M k k' z zz
    exact bindT_mono tg z fun e z => wSs_mono b z ⟨zz, q.rt, q.xc⟩
  | .pass, _, _, _, _, h, q => by
    simp only [wS] at h ⊢
    exact q.nx _ _ h
  | .never, _, _, _, _, h, q => by
    simp only [wS] at h
theorem wSs_mono : ∀ (s : Sxs) {env : Env} {M : MM} {P P' : Post}, wSs C G s env M P → PostLe P P' → wSs C' G s env M P'
  | .nil, _, _, _, _, h, q => by
    simp only [wSs] at h ⊢
    exact q.nx _ _ h
  | .cons s r, _, _, _, _, h, q => by
    simp only [wSs] at h ⊢
    exact wS_mono s h ⟨fun e M z => wSs_mono r z q, q.rt, q.xc⟩
  | .gho r, _, _, _, _, h, q => by
    simp only [wSs] at h ⊢
    obtain ⟨env1, M1, h1, h2, h3⟩ := h
    exact ⟨env1, M1, h1, h2, wSs_mono r h3 q⟩
end
end
theorem wDf_mono {C C' : CallSem} {G : Str → Option D} (hC : ∀ f ds M (Q Q' : PQ) (E E' : XQ), C f ds M Q E → (∀ d M, Q d M → Q' d M) → (∀ x M, E x M → E' x M) → C' f ds M Q' E')
    {d : Df} {ds : List D} {M : MM} {Q Q' : PQ} {E E' : XQ} (h : wDf C G d ds M Q E) (q : ∀ d M, Q d M → Q' d M) (r : ∀ x M, E x M → E' x M) : wDf C' G d ds M Q' E' :=
  ⟨h.1, wSs_mono hC _ h.2 ⟨fun e M z => q _ _ z, q, fun x e M z => r _ _ z⟩⟩
theorem callN_mono {T : Tab} {G : Str → Option D} : ∀ (n : Nat) (f : Str) (ds : List D) (M : MM) (Q Q' : PQ) (E E' : XQ), callN T G n f ds M Q E → (∀ d M, Q d M → Q' d M) → (∀ x M, E x M → E' x M) → callN T G n f ds M Q' E'
  | 0, _, _, _, _, _, _, _, h, _, _ => h
  | n + 1, f, ds, M, Q, Q', E, E', h, q, r => by
    simp only [callN] at h ⊢
    split at h
    · exact wDf_mono (callN_mono n) h q r
    · exact h
theorem callN_succ {T : Tab} {G : Str → Option D} : ∀ (n : Nat) (f : Str) (ds : List D) (M : MM) (Q Q' : PQ) (E E' : XQ), callN T G n f ds M Q E → (∀ d M, Q d M → Q' d M) → (∀ x M, E x M → E' x M) → callN T G (n + 1) f ds M Q' E'
  | 0, _, _, _, _, _, _, _, h, _, _ => h.elim
  | n + 1, f, ds, M, Q, Q', E, E', h, q, r => by
    rw [callN] at h ⊢
    split at h
    · rename_i d e
      simp only [e]
      exact wDf_mono (callN_succ n) h q r
    · exact h.elim
theorem callN_le {T : Tab} {G : Str → Option D} {n m : Nat} (hm : n ≤ m) {f : Str} {ds : List D} {M : MM} {Q : PQ} {E : XQ} (h : callN T G n f ds M Q E) : callN T G m f ds M Q E := by
  induction hm with
  | refl => exact h
  | step _ ih => exact callN_succ _ _ _ _ _ _ _ _ ih (fun _ _ z => z) fun _ _ z => z
end Z

set_option Elab.async false
set_option linter.all false
set_option maxRecDepth 100000
/-! Z3: how data lie in the abstract heap; operations by values keep what they ask. -/
namespace Z
open PySem PySem.Spec PyProof.Rows L2

mutual
inductive DR (K : PySem.W.Frag) (F : Hp) : D → V → Prop
  | non : DR K F .non .non
  | bl (b : Bool) : DR K F (.bl b) (.bl b)
  | int (i : Int) : DR K F (.int i) (.int i)
  | str (x : Str) : DR K F (.str x) (.str x)
  | ty (n : String) : DR K F (.ty n) (.ty n)
  | own (c : Str) : DR K F (.own c) (.ref (He.ga K c))
  | cell (a : Addr) : DR K F (.cell a) (.ref a)
  | scr {a : Addr} {l : List Int} : SqL K F a (l.map V.int) → DR K F (.scr l) (.ref a)
  | tup {a : Addr} {l : List D} {vs : List V} : F a = some (.tup vs) → DRs K F l vs → DR K F (.tup l) (.ref a)
  | lst {a : Addr} {l : List D} {vs : List V} : F a = some (.lst vs) → DRs K F l vs → DR K F (.lst l) (.ref a)
  | dct {a : Addr} {ks : List Key} {ds : List D} {kvs : List (Key × V)} : F a = some (.dK kvs) → kvs.map (·.1) = ks → DRs K F ds (kvs.map (·.2)) → DR K F (.dct ks ds) (.ref a)
  | dtt {a : Addr} {ks : List (List Key)} {ds : List D} {kvs : List (List Key × V)} : F a = some (.dT kvs) → kvs.map (·.1) = ks → DRs K F ds (kvs.map (·.2)) → DR K F (.dtt ks ds) (.ref a)
inductive DRs (K : PySem.W.Frag) (F : Hp) : List D → List V → Prop
  | nil : DRs K F [] []
  | cons {d : D} {v : V} {ds : List D} {vs : List V} : DR K F d v → DRs K F ds vs → DRs K F (d :: ds) (v :: vs)
end
/-- how a cell lies -/
inductive OR (K : PySem.W.Frag) (F : Hp) : Ob → HO → Prop
  | lst {l : List D} {vs : List V} : DRs K F l vs → OR K F (.lst l) (.lst vs)
  | dK {l : List (Key × D)} {kvs : List (Key × V)} : kvs.map (·.1) = l.map (·.1) → DRs K F (l.map (·.2)) (kvs.map (·.2)) → OR K F (.dK l) (.dK kvs)
  | dT {l : List (List Key × D)} {kvs : List (List Key × V)} : kvs.map (·.1) = l.map (·.1) → DRs K F (l.map (·.2)) (kvs.map (·.2)) → OR K F (.dT l) (.dT kvs)
structure Rel (K : PySem.W.Frag) (F H : Hp) (M : MM) : Prop where
  sub : Same F H
  own : ∀ a o, M a = some o → F a = none ∧ ∃ h, H a = some h ∧ OR K F o h
section
variable {K : PySem.W.Frag} {F F' H H' : Hp} {M M' : MM}
mutual
theorem DR.mono (h : Same F F') : ∀ {d : D} {v : V}, DR K F d v → DR K F' d v
  | _, _, .non => .non
  | _, _, .bl b => .bl b
  | _, _, .int i => .int i
  | _, _, .str x => .str x
  | _, _, .ty n => .ty n
  | _, _, .own c => .own c
  | _, _, .cell a => .cell a
  | _, _, .scr e => .scr (h.seq e)
  | _, _, .tup e r => .tup (h _ _ e) (DRs.mono h r)
  | _, _, .lst e r => .lst (h _ _ e) (DRs.mono h r)
  | _, _, .dct e k r => .dct (h _ _ e) k (DRs.mono h r)
  | _, _, .dtt e k r => .dtt (h _ _ e) k (DRs.mono h r)
theorem DRs.mono (h : Same F F') : ∀ {d : List D} {v : List V}, DRs K F d v → DRs K F' d v
  | _, _, .nil => .nil
  | _, _, .cons r s => .cons (r.mono h) (DRs.mono h s)
end
theorem OR.mono (h : Same F F') {o : Ob} {u : HO} (r : OR K F o u) : OR K F' o u := by
  cases r with
  | lst r => exact .lst (r.mono h)
  | dK e r => exact .dK e (r.mono h)
  | dT e r => exact .dT e (r.mono h)
theorem DRs.length : ∀ {l : List D} {vs : List V}, DRs K F l vs → l.length = vs.length
  | _, _, .nil => rfl
  | _, _, .cons _ r => congrArg (· + 1) r.length
theorem DRs.append : ∀ {l r : List D} {vs ws : List V}, DRs K F l vs → DRs K F r ws → DRs K F (l ++ r) (vs ++ ws)
  | _, _, _, _, .nil, s => s
  | _, _, _, _, .cons a r, s => .cons a (r.append s)
theorem DRs.get : ∀ {l : List D} {vs : List V} {i : Nat} {d : D}, DRs K F l vs → l[i]? = some d → ∃ v, vs[i]? = some v ∧ DR K F d v
  | _, _, _, _, .nil, e => by simp at e
  | _, _, 0, _, .cons r _, e => by simp at e; subst e; exact ⟨_, rfl, r⟩
  | _, _, i + 1, _, .cons _ r, e => by
    obtain ⟨v, h1, h2⟩ := r.get (i := i) (by simpa using e)
    exact ⟨v, by simpa using h1, h2⟩
theorem DRs.getV : ∀ {l : List D} {vs : List V} {i : Nat} {v : V}, DRs K F l vs → vs[i]? = some v → ∃ d, l[i]? = some d ∧ DR K F d v
  | _, _, _, _, .nil, e => by simp at e
  | _, _, 0, _, .cons r _, e => by simp at e; subst e; exact ⟨_, rfl, r⟩
  | _, _, i + 1, _, .cons _ r, e => by
    obtain ⟨v, h1, h2⟩ := r.getV (i := i) (by simpa using e)
    exact ⟨v, by simpa using h1, h2⟩
theorem DRs.set {d : D} {v : V} (q : DR K F d v) : ∀ {l : List D} {vs : List V} (i : Nat), DRs K F l vs → DRs K F (l.set i d) (vs.set i v)
  | _, _, _, .nil => .nil
  | _, _, 0, .cons _ r => .cons q r
  | _, _, i + 1, .cons p r => .cons p (r.set q i)
theorem DRs.take : ∀ {l : List D} {vs : List V} (n : Nat), DRs K F l vs → DRs K F (l.take n) (vs.take n)
  | _, _, 0, _ => by rw [List.take_zero, List.take_zero]; exact .nil
  | _, _, _ + 1, .nil => .nil
  | _, _, n + 1, .cons r t => .cons r (t.take n)
theorem DRs.drop : ∀ {l : List D} {vs : List V} (n : Nat), DRs K F l vs → DRs K F (l.drop n) (vs.drop n)
  | _, _, 0, r => r
  | _, _, _ + 1, .nil => .nil
  | _, _, n + 1, .cons r t => t.drop n
theorem DRs.dropLast : ∀ {l : List D} {vs : List V}, DRs K F l vs → DRs K F l.dropLast vs.dropLast
  | _, _, .nil => .nil
  | _, _, .cons _ .nil => .nil
  | _, _, .cons a (.cons b r) => .cons a (DRs.dropLast (.cons b r))
theorem DRs.eraseIdx : ∀ {l : List D} {vs : List V} (n : Nat), DRs K F l vs → DRs K F (l.eraseIdx n) (vs.eraseIdx n)
  | _, _, _, .nil => .nil
  | _, _, 0, .cons _ r => r
  | _, _, n + 1, .cons a r => .cons a (r.eraseIdx n)
theorem DRs.ints : ∀ (l : List Int), DRs K F (l.map D.int) (l.map V.int)
  | [] => .nil
  | a :: l => .cons (.int a) (DRs.ints l)
theorem DRs.rep {l : List D} {vs : List V} (r : DRs K F l vs) : ∀ n : Nat, DRs K F (List.replicate n l).flatten (List.replicate n vs).flatten
  | 0 => .nil
  | n + 1 => by
    rw [List.replicate_succ, List.replicate_succ, List.flatten_cons, List.flatten_cons]
    exact r.append (DRs.rep r n)
theorem Rel.lst_of (R : Rel K F H M) {a : Addr} {l : List D} (h : M a = some (.lst l)) : ∃ vs, H a = some (.lst vs) ∧ DRs K F l vs ∧ F a = none := by
  obtain ⟨n, u, e, o⟩ := R.own a _ h
  cases o with
  | lst r => exact ⟨_, e, r, n⟩
/-- a list that is read -/
theorem Rel.lstT_of (R : Rel K F H M) {d : D} {v : V} {l : List D} (r : DR K F d v) (h : lstT M d = some l) : ∃ a vs, v = .ref a ∧ H a = some (.lst vs) ∧ DRs K F l vs := by
  cases r with
  | @lst a l' vs e q =>
    simp only [lstT, Option.some.injEq] at h
    subst h
    exact ⟨a, vs, rfl, R.sub _ _ e, q⟩
  | cell a =>
    simp only [lstT] at h
    split at h
    · rename_i l' e
      cases h
      obtain ⟨vs, e1, e2, _⟩ := R.lst_of e
      exact ⟨a, vs, rfl, e1, e2⟩
    · cases h
  | _ => simp [lstT] at h
theorem Rel.lstOf_of (R : Rel K F H M) {d : D} {v : V} {l : List D} (r : DR K F d v) (h : lstOf M d = some l) : ∃ a vs, v = .ref a ∧ SqL K H a vs ∧ DRs K F l vs := by
  cases r with
  | @lst a l' vs e q =>
    simp only [lstOf, Option.some.injEq] at h
    subst h
    exact ⟨a, vs, rfl, SqL.of (R.sub _ _ e), q⟩
  | @scr a l' e =>
    simp only [lstOf, Option.some.injEq] at h
    subst h
    exact ⟨a, _, rfl, R.sub.seq e, DRs.ints _⟩
  | cell a =>
    simp only [lstOf] at h
    split at h
    · rename_i l' e
      cases h
      obtain ⟨vs, e1, e2, _⟩ := R.lst_of e
      exact ⟨a, vs, rfl, SqL.of e1, e2⟩
    · cases h
  | _ => simp [lstOf] at h
theorem Rel.seqOf_of (R : Rel K F H M) {d : D} {v : V} {l : List D} (r : DR K F d v) (h : seqOf M d = some l) : ∃ a vs, v = .ref a ∧ (SqL K H a vs ∨ SqT K H a vs) ∧ DRs K F l vs := by
  cases r with
  | @lst a l' vs e q =>
    simp only [seqOf, Option.some.injEq] at h
    subst h
    exact ⟨a, vs, rfl, .inl (SqL.of (R.sub _ _ e)), q⟩
  | @tup a l' vs e q =>
    simp only [seqOf, Option.some.injEq] at h
    subst h
    exact ⟨a, vs, rfl, .inr (SqT.of (R.sub _ _ e)), q⟩
  | @scr a l' e =>
    simp only [seqOf, Option.some.injEq] at h
    subst h
    exact ⟨a, _, rfl, .inl (R.sub.seq e), DRs.ints _⟩
  | cell a =>
    simp only [seqOf] at h
    split at h
    · rename_i l' e
      cases h
      obtain ⟨vs, e1, e2, _⟩ := R.lst_of e
      exact ⟨a, vs, rfl, .inl (SqL.of e1), e2⟩
    · cases h
  | _ => simp [seqOf] at h
theorem DRs.intsOf : ∀ {l : List D} {vs : List V} {ns : List Int}, DRs K F l vs → Z.intsOf l = some ns → vs = ns.map V.int
  | _, _, _, .nil, h => by simp [Z.intsOf] at h; subst h; rfl
  | .int i :: l, _, ns, .cons (.int _) r, h => by
    simp only [Z.intsOf, Option.map_eq_some_iff] at h
    obtain ⟨m, h1, h2⟩ := h
    subst h2
    rw [r.intsOf h1] <;> rfl
  | .non :: l, _, ns, _, h => by simp [Z.intsOf] at h
  | .bl _ :: l, _, ns, _, h => by simp [Z.intsOf] at h
  | .str _ :: l, _, ns, _, h => by simp [Z.intsOf] at h
  | .ty _ :: l, _, ns, _, h => by simp [Z.intsOf] at h
  | .own _ :: l, _, ns, _, h => by simp [Z.intsOf] at h
  | .cell _ :: l, _, ns, _, h => by simp [Z.intsOf] at h
  | .scr _ :: l, _, ns, _, h => by simp [Z.intsOf] at h
  | .tup _ :: l, _, ns, _, h => by simp [Z.intsOf] at h
  | .lst _ :: l, _, ns, _, h => by simp [Z.intsOf] at h
  | .dct _ _ :: l, _, ns, _, h => by simp [Z.intsOf] at h
  | .dtt _ _ :: l, _, ns, _, h => by simp [Z.intsOf] at h
theorem DRs.blsOf : ∀ {l : List D} {vs : List V} {ns : List Bool}, DRs K F l vs → Z.blsOf l = some ns → vs = ns.map V.bl
  | _, _, _, .nil, h => by simp [Z.blsOf] at h; subst h; rfl
  | .bl i :: l, _, ns, .cons (.bl _) r, h => by
    simp only [Z.blsOf, Option.map_eq_some_iff] at h
    obtain ⟨m, h1, h2⟩ := h
    subst h2
    rw [r.blsOf h1] <;> rfl
  | .non :: l, _, ns, _, h => by simp [Z.blsOf] at h
  | .int _ :: l, _, ns, _, h => by simp [Z.blsOf] at h
  | .str _ :: l, _, ns, _, h => by simp [Z.blsOf] at h
  | .ty _ :: l, _, ns, _, h => by simp [Z.blsOf] at h
  | .own _ :: l, _, ns, _, h => by simp [Z.blsOf] at h
  | .cell _ :: l, _, ns, _, h => by simp [Z.blsOf] at h
  | .scr _ :: l, _, ns, _, h => by simp [Z.blsOf] at h
  | .tup _ :: l, _, ns, _, h => by simp [Z.blsOf] at h
  | .lst _ :: l, _, ns, _, h => by simp [Z.blsOf] at h
  | .dct _ _ :: l, _, ns, _, h => by simp [Z.blsOf] at h
  | .dtt _ _ :: l, _, ns, _, h => by simp [Z.blsOf] at h

/-! ### the store grows -/
/-- a new frozen object -/
theorem Rel.frz (R : Rel K F H M) {p : Addr} (hp : H p = none) (o : HO) : Same F (upd F p o) ∧ Rel K (upd F p o) (upd H p o) M ∧ (upd F p o) p = some o := by
  have fp : F p = none := R.sub.free hp
  have s : Same F (upd F p o) := fun b u e => by
    rw [upd_ne (ne_of_none e fp)]
    exact e
  refine ⟨s, ⟨fun b u e => ?_, fun a ob e => ?_⟩, upd_same⟩
  · by_cases hb : b = p
    · subst hb
      rw [upd_same] at e ⊢
      exact e
    · rw [upd_ne hb] at e ⊢
      exact R.sub _ _ e
  · obtain ⟨n, u, e1, e2⟩ := R.own a ob e
    have hb : a ≠ p := ne_of_none e1 hp
    exact ⟨by rw [upd_ne hb]; exact n, u, by rw [upd_ne hb]; exact e1, e2.mono s⟩
/-- a new cell -/
theorem Rel.new (R : Rel K F H M) {p : Addr} (hp : H p = none) {o : HO} {ob : Ob} (r : OR K F ob o) : M p = none ∧ Rel K F (upd H p o) (put M p ob) := by
  have fp : F p = none := R.sub.free hp
  have mp : M p = none := by
    cases e : M p with
    | none => rfl
    | some ob =>
      obtain ⟨_, u, e1, _⟩ := R.own p ob e
      rw [hp] at e1; cases e1
  refine ⟨mp, ⟨fun b u e => ?_, fun a ob' e => ?_⟩⟩
  · rw [upd_ne (ne_of_none e fp)]
    exact R.sub _ _ e
  · by_cases ha : a = p
    · subst ha
      rw [put_same] at e
      cases e
      exact ⟨fp, o, upd_same, r⟩
    · rw [put_ne ha] at e
      obtain ⟨n, u, e1, e2⟩ := R.own a ob' e
      exact ⟨n, u, by rw [upd_ne ha]; exact e1, e2⟩
/-- a cell is written -/
theorem Rel.wr (R : Rel K F H M) {p : Addr} {ob ob' : Ob} (hp : M p = some ob) {o : HO} (r : OR K F ob' o) : Rel K F (upd H p o) (put M p ob') := by
  obtain ⟨fp, _⟩ := R.own p ob hp
  refine ⟨fun b u e => ?_, fun a ob'' e => ?_⟩
  · rw [upd_ne (ne_of_none e fp)]
    exact R.sub _ _ e
  · by_cases ha : a = p
    · subst ha
      rw [put_same] at e
      cases e
      exact ⟨fp, o, upd_same, r⟩
    · rw [put_ne ha] at e
      obtain ⟨n, u, e1, e2⟩ := R.own a ob'' e
      exact ⟨n, u, by rw [upd_ne ha]; exact e1, e2⟩
theorem Rel.less (R : Rel K F H M) (h : MSub M' M) : Rel K F H M' := ⟨R.sub, fun a o e => R.own a o (h a o e)⟩
/-- some cells become frozen -/
def froz (M M' : MM) (F H : Hp) : Hp := fun a => if (M a).isSome = true ∧ M' a = none then H a else F a
theorem Rel.froz (R : Rel K F H M) (h : MSub M' M) : Same F (froz M M' F H) ∧ Rel K (froz M M' F H) H M' := by
  have s : Same F (Z.froz M M' F H) := fun b u e => by
    unfold Z.froz
    rw [if_neg]
    · exact e
    · rintro ⟨h1, _⟩
      obtain ⟨o, ho⟩ := Option.isSome_iff_exists.mp h1
      rw [(R.own b o ho).1] at e
      cases e
  refine ⟨s, ⟨fun b u e => ?_, fun a o e => ?_⟩⟩
  · unfold Z.froz at e
    split at e
    · exact e
    · exact R.sub _ _ e
  · obtain ⟨n, u, e1, e2⟩ := R.own a o (h a o e)
    refine ⟨?_, u, e1, e2.mono s⟩
    unfold Z.froz
    rw [if_neg (by rintro ⟨_, z⟩; rw [e] at z; cases z)]
    exact n
mutual
theorem Fz.ok (R : Rel K F H M) (h : MSub M' M) : ∀ {d t : D} {v : V}, Fz M M' d t → DR K F d v → DR K (froz M M' F H) t v
  | _, _, _, .same d, r => r.mono (R.froz h).1
  | _, _, _, .cellL (a := a) e n f, r => by
    cases r
    obtain ⟨vs, e1, e2, _⟩ := R.lst_of e
    refine .lst (vs := vs) ?_ (Fzs.ok R h f e2)
    show (if _ then H a else F a) = _
    rw [if_pos ⟨by rw [e]; rfl, n⟩]
    exact e1
  | _, _, _, .cellK (a := a) (kvs := kvs) e n f, r => by
    cases r
    obtain ⟨_, u, e1, e2⟩ := R.own _ _ e
    cases e2 with
    | dK ek r =>
      refine .dct ?_ ek (Fzs.ok R h f r)
      show (if _ then H a else F a) = _
      rw [if_pos ⟨by rw [e]; rfl, n⟩]
      exact e1
  | _, _, _, .cellT (a := a) (kvs := kvs) e n f, r => by
    cases r
    obtain ⟨_, u, e1, e2⟩ := R.own _ _ e
    cases e2 with
    | dT ek r =>
      refine .dtt ?_ ek (Fzs.ok R h f r)
      show (if _ then H a else F a) = _
      rw [if_pos ⟨by rw [e]; rfl, n⟩]
      exact e1
  | _, _, _, .tup f, r => by
    cases r with
    | tup e q => exact .tup ((R.froz h).1 _ _ e) (Fzs.ok R h f q)
  | _, _, _, .lst f, r => by
    cases r with
    | lst e q => exact .lst ((R.froz h).1 _ _ e) (Fzs.ok R h f q)
theorem Fzs.ok (R : Rel K F H M) (h : MSub M' M) : ∀ {d t : List D} {v : List V}, Fzs M M' d t → DRs K F d v → DRs K (froz M M' F H) t v
  | _, _, _, .nil, .nil => .nil
  | _, _, _, .cons f g, .cons r s => .cons (Fz.ok R h f r) (Fzs.ok R h g s)
end
/-! ### environments -/
structure EnvR (K : PySem.W.Frag) (F : Hp) (env : Env) (σ : L2.St) : Prop where
  len : env.length = σ.length
  get : ∀ (i : Nat) (d : D), env[i]? = some (some d) → ∃ v, σ[i]? = some (some v) ∧ DR K F d v
theorem EnvR.mono {env : Env} {σ : L2.St} (r : EnvR K F env σ) (h : Same F F') : EnvR K F' env σ := ⟨r.len, fun i d e =>
  let ⟨v, h1, h2⟩ := r.get i d e
  ⟨v, h1, h2.mono h⟩⟩
theorem EnvR.set {env : Env} {σ : L2.St} (r : EnvR K F env σ) {d : D} {v : V} (q : DR K F d v) (i : Nat) : EnvR K F (env.set i (some d)) (σ.set i (some v)) := by
  have hl := r.len
  refine ⟨by simpa using hl, fun j x e => ?_⟩
  by_cases hj : i = j
  · subst hj
    have hi : i < env.length := by
      rcases Nat.lt_or_ge i env.length with h | h
      · exact h
      · rw [List.getElem?_eq_none (by simpa using h)] at e
        cases e
    rw [List.getElem?_set_self hi] at e
    cases e
    exact ⟨v, by rw [List.getElem?_set_self (by omega)], q⟩
  · rw [List.getElem?_set_ne hj] at e ⊢
    exact r.get j x e
theorem EnvR.wipe {env : Env} {σ : L2.St} (r : EnvR K F env σ) : ∀ vs : List Nat, EnvR K F (wipeD env vs) (L2.wipe σ vs)
  | [] => r
  | v :: vs => by
    have ih := EnvR.wipe r vs
    unfold wipeD L2.wipe
    refine ⟨by simpa using ih.len, fun j x e => ?_⟩
    by_cases hj : v = j
    · subst hj
      rcases Nat.lt_or_ge v (wipeD env vs).length with h | h
      · rw [List.getElem?_set_self h] at e
        cases e
      · rw [List.getElem?_eq_none (by simpa using h)] at e
        cases e
    · rw [List.getElem?_set_ne hj] at e ⊢
      exact ih.get j x e
theorem FzE.length {env env' : Env} (f : FzE M M' env env') : env'.length = env.length := by
  induction f with
  | nil => rfl
  | no _ ih => simp [ih]
  | yes _ _ ih => simp [ih]
theorem FzE.ok (R : Rel K F H M) (h : MSub M' M) {env env' : Env} (f : FzE M M' env env') {σ : L2.St} (r : EnvR K F env σ) : EnvR K (froz M M' F H) env' σ := by
  refine ⟨f.length.trans r.len, ?_⟩
  suffices ∀ {env env' : Env}, FzE M M' env env' → ∀ (i : Nat) (t : D), env'[i]? = some (some t) → ∃ d, env[i]? = some (some d) ∧ Fz M M' d t by
    intro i t e
    obtain ⟨d, h1, h2⟩ := this f i t e
    obtain ⟨v, h3, h4⟩ := r.get i d h1
    exact ⟨v, h3, Fz.ok R h h2 h4⟩
  intro env env' f
  induction f with
  | nil => intro i t e; simp at e
  | no _ ih =>
    intro i t e
    cases i with
    | zero => simp at e
    | succ i => exact ih i t (by simpa using e)
  | yes q _ ih =>
    intro i t e
    cases i with
    | zero =>
      simp only [List.getElem?_cons_zero, Option.some.injEq] at e
      subst e
      exact ⟨_, rfl, q⟩
    | succ i => exact ih i t (by simpa using e)
end
/-! ### what is wanted -/
def Out (K : PySem.W.Frag) (F : Hp) (Q : VK) : PQ := fun d M' => ∀ F' H' v, Same F F' → Rel K F' H' M' → DR K F' d v → Q v H'
def OutB (K : PySem.W.Frag) (F : Hp) (Q : Bool → Hp → Prop) : PB := fun b M' => ∀ F' H', Same F F' → Rel K F' H' M' → Q b H'
def OutL (K : PySem.W.Frag) (F : Hp) (Q : List V → Hp → Prop) : PL := fun d M' => ∀ F' H' v, Same F F' → Rel K F' H' M' → DRs K F' d v → Q v H'
/-- an exception as it lies -/
def XR (K : PySem.W.Frag) (x : Xc) (cls : Value) (d : Option Addr) : Prop := cls = .ref (He.ga K x.cls) ∧ x.val = none ∧ d = none
def OutX (K : PySem.W.Frag) (F : Hp) (W : Value → Option Addr → Hp → Prop) : XQ := fun x M' => ∀ F' H' cls d, Same F F' → Rel K F' H' M' → XR K x cls d → W cls d H'
theorem Out.mono {K : PySem.W.Frag} {F F' : Hp} {Q : VK} {d : D} {M : MM} (h : Out K F Q d M) (s : Same F F') : Out K F' Q d M := fun F2 H' v s2 => h F2 H' v (s.trans s2)
/-- an operation's reading: by the data of its operands -/
def rZ (K : PySem.W.Frag) (w : D → D → MM → PQ → Prop) : R2 := fun x y H Q => ∃ F M a b, Rel K F H M ∧ DR K F a x ∧ DR K F b y ∧ w a b M (Out K F Q)
def rZ1 (K : PySem.W.Frag) (w : D → MM → PQ → Prop) : V → Hp → VK → Prop := fun x H Q => ∃ F M a, Rel K F H M ∧ DR K F a x ∧ w a M (Out K F Q)
def rZs (K : PySem.W.Frag) (w : List D → MM → PQ → Prop) : List V → Hp → VK → Prop := fun xs H Q => ∃ F M ds, Rel K F H M ∧ DRs K F ds xs ∧ w ds M (Out K F Q)
end Z

set_option Elab.async false
set_option linter.all false
set_option maxRecDepth 100000
/-! Z4: operations by values. -/
namespace Z
open PySem PySem.Spec PyProof.Rows L2
section
variable {X : Cx} {F H : Hp} {M : MM} {K : PySem.W.Frag}
theorem newL_ok (R : Rel K F H M) {k : Bool} {l : List D} {vs : List V} {Q : VK} (h : newL k l M (Out K F Q)) (r : DRs K F l vs) : vs.length ≤ sizeLine ∧ ∀ p, H p = none → Q (.ref p) (upd H p (.lst vs)) := by
  obtain ⟨hl, h⟩ := h
  refine ⟨r.length ▸ hl, fun p hp => ?_⟩
  cases k with
  | false =>
    obtain ⟨s, R2, e⟩ := R.frz hp (.lst vs)
    exact h _ _ _ s R2 (.lst e (r.mono s))
  | true =>
    obtain ⟨mp, R2⟩ := R.new hp (.lst r)
    exact h p mp _ _ _ (Same.refl _) R2 (.cell p)
theorem newT_ok (R : Rel K F H M) {l : List D} {vs : List V} {Q : VK} (h : Out K F Q (.tup l) M) (r : DRs K F l vs) : ∀ p, H p = none → Q (.ref p) (upd H p (.tup vs)) := fun p hp => by
  obtain ⟨s, R2, e⟩ := R.frz hp (.tup vs)
  exact h _ _ _ s R2 (.tup e (r.mono s))
theorem Out.here (R : Rel K F H M) {Q : VK} {d : D} {v : V} (h : Out K F Q d M) (r : DR K F d v) : Q v H := h F H v (Same.refl _) R r

theorem catZ {k : Bool} : OpR X (binaryOp .Add) (rZ X.K (catW k)) := by
  intro pins s σ H x y v u Q I rx ry ⟨F, M, a, b, R, ra, rb, h⟩
  unfold catW at h
  split at h
  · rename_i l r e1 e2
    obtain ⟨p, vs, rfl, hp, q1⟩ := R.lstT_of ra e1
    obtain ⟨p2, ws, rfl, hp2, q2⟩ := R.lstT_of rb e2
    obtain ⟨hl, hn⟩ := newL_ok R h (q1.append q2)
    exact op_cat pins s σ H _ _ v u Q I rx ry ⟨p, p2, vs, ws, rfl, rfl, hp, hp2, by rw [List.length_append] at hl; exact hl, hn⟩
  · exact h.elim
theorem addZ : OpR X (binaryOp .Add) (rZ X.K addW) := by
  intro pins s σ H x y v u Q I rx ry ⟨F, M, a, b, R, ra, rb, h⟩
  unfold addW at h
  split at h
  · cases ra
    cases rb
    exact op_add pins s σ H _ _ v u Q I rx ry ⟨_, _, rfl, rfl, h.here R (.int _)⟩
  · cases ra
    cases rb
    exact op_add_str pins s σ H _ _ v u Q I rx ry ⟨_, _, rfl, rfl, h.1, h.2.here R (.str _)⟩
  · rename_i l r
    cases ra with
    | @tup a _ vs ea qa =>
      cases rb with
      | @tup b _ ws eb qb =>
        have hl := qa.length
        have hl2 := qb.length
        refine op_catA pins s σ H _ _ v u Q I rx ry ⟨a, b, vs, ws, rfl, rfl, SqT.of (R.sub _ _ ea), SqT.of (R.sub _ _ eb), by rw [← hl, ← hl2]; exact h.1, fun e => ?_, fun _ e => ?_, fun _ _ => newT_ok R h.2 (qa.append qb)⟩
        · subst e
          have e2 : l = [] := List.length_eq_zero_iff.mp hl
          subst e2
          exact h.2.here R (.tup eb qb)
        · subst e
          have e2 : r = [] := List.length_eq_zero_iff.mp hl2
          subst e2
          rw [List.append_nil] at h
          exact h.2.here R (.tup ea qa)
  · exact catZ pins s σ H x y v u Q I rx ry ⟨F, M, _, _, R, ra, rb, h⟩
theorem intZ {f : Value → Value → Sem Value} {P : Int → Int → Prop} {g : Int → Int → Int} (h : OpR X f (rI P fun i j => .int (g i j))) : OpR X f (rZ X.K fun x y M Q => i2 x y fun i j => P i j ∧ Q (.int (g i j)) M) := by
  intro pins s σ H x y v u Q I rx ry ⟨F, M, a, b, R, ra, rb, h2⟩
  replace h2 : i2 a b _ := h2
  unfold i2 at h2
  split at h2
  · cases ra
    cases rb
    exact h pins s σ H _ _ v u Q I rx ry ⟨_, _, rfl, rfl, h2.1, h2.2.here R (.int _)⟩
  · exact h2.elim
theorem intZ0 {f : Value → Value → Sem Value} {g : Int → Int → Int} (h : OpR X f (rI0 fun i j => .int (g i j))) : OpR X f (rZ X.K fun x y M Q => i2 x y fun i j => Q (.int (g i j)) M) := by
  intro pins s σ H x y v u Q I rx ry ⟨F, M, a, b, R, ra, rb, h2⟩
  replace h2 : i2 a b _ := h2
  unfold i2 at h2
  split at h2
  · cases ra
    cases rb
    exact h pins s σ H _ _ v u Q I rx ry ⟨_, _, rfl, rfl, h2.here R (.int _)⟩
  · exact h2.elim
theorem blZ0 {f : Value → Value → Sem Value} {g : Int → Int → Bool} (h : OpR X f (rI0 fun i j => .bl (g i j))) : OpR X f (rZ X.K fun x y M Q => i2 x y fun i j => Q (.bl (g i j)) M) := by
  intro pins s σ H x y v u Q I rx ry ⟨F, M, a, b, R, ra, rb, h2⟩
  replace h2 : i2 a b _ := h2
  unfold i2 at h2
  split at h2
  · cases ra
    cases rb
    exact h pins s σ H _ _ v u Q I rx ry ⟨_, _, rfl, rfl, h2.here R (.bl _)⟩
  · exact h2.elim
theorem mulZ : OpR X (binaryOp .Mult) (rZ X.K mulW) := by
  intro pins s σ H x y v u Q I rx ry ⟨F, M, a, b, R, ra, rb, h⟩
  unfold mulW at h
  split at h
  · cases ra
    cases rb
    exact op_mul pins s σ H _ _ v u Q I rx ry ⟨_, _, rfl, rfl, h.1, h.2.here R (.int _)⟩
  · split at h
    · rename_i l e1
      cases rb
      obtain ⟨p, vs, rfl, hp, q1⟩ := R.lstT_of ra e1
      obtain ⟨hl, hn⟩ := newL_ok R h.2.2.2 (q1.rep _)
      exact op_rep pins s σ H _ _ v u Q I rx ry ⟨p, _, vs, rfl, rfl, hp, h.1, h.2.1, by rw [← q1.length]; exact h.2.2.1, hn⟩
    · exact h.elim
  · exact h.elim

theorem repZ {k : Bool} : OpR X (binaryOp .Mult) (rZ X.K (repW k)) := by
  intro pins s σ H x y v u Q I rx ry ⟨F, M, a, b, R, ra, rb, h⟩
  unfold repW at h
  split at h
  · rename_i l n e1
    cases rb
    obtain ⟨p, vs, rfl, hp, q1⟩ := R.lstT_of ra e1
    obtain ⟨hl, hn⟩ := newL_ok R h.2.2.2 (q1.rep _)
    exact op_rep pins s σ H _ _ v u Q I rx ry ⟨p, _, vs, rfl, rfl, hp, h.1, h.2.1, by rw [← q1.length]; exact h.2.2.1, hn⟩
  · exact h.elim
/-! ### == -/
mutual
theorem pyOf_ok {c : Addr → Option PyData} (hc : ∀ a p, c a = some p → Dp K H (.ref a) p) (s : Same F H) : ∀ (d : D) (v : V) (p : PyData), DR K F d v → pyOf c d = some p → Dp K H v p
  | .non, _, _, .non, h => by cases h; exact .non
  | .bl b, _, _, .bl _, h => by cases h; exact .bl b
  | .int b, _, _, .int _, h => by cases h; exact .int b
  | .str b, _, _, .str _, h => by cases h; exact .str b
  | .ty _, _, _, _, h => by simp [pyOf] at h
  | .own _, _, _, _, h => by simp [pyOf] at h
  | .dct _ _, _, _, _, h => by simp [pyOf] at h
  | .dtt _ _, _, _, _, h => by simp [pyOf] at h
  | .cell a, _, p, .cell _, h => hc a p (by simpa [pyOf] using h)
  | .scr l, _, p, .scr e, h => by
    simp only [pyOf, Option.some.injEq] at h
    subst h
    refine .lst (s.seq e) ?_
    clear e
    induction l with
    | nil => exact .nil
    | cons a l ih => exact .cons (.int a) ih
  | .tup l, _, p, .tup e r, h => by
    simp only [pyOf, Option.map_eq_some_iff] at h
    obtain ⟨ps, h1, rfl⟩ := h
    exact .tup (SqT.of (s _ _ e)) (pyAll_ok hc s l _ ps r h1)
  | .lst l, _, p, .lst e r, h => by
    simp only [pyOf, Option.map_eq_some_iff] at h
    obtain ⟨ps, h1, rfl⟩ := h
    exact .lst (SqL.of (s _ _ e)) (pyAll_ok hc s l _ ps r h1)
theorem pyAll_ok {c : Addr → Option PyData} (hc : ∀ a p, c a = some p → Dp K H (.ref a) p) (s : Same F H) : ∀ (d : List D) (v : List V) (p : List PyData), DRs K F d v → pyAll c d = some p → DpAll K H v p
  | [], _, _, .nil, h => by cases h; exact .nil
  | d :: ds, _, p, .cons r q, h => by
    simp only [pyAll] at h
    split at h
    · rename_i x xs e1 e2
      cases h
      exact .cons (pyOf_ok hc s d _ x r e1) (pyAll_ok hc s ds _ xs q e2)
    · cases h
end
theorem pyCell_ok (R : Rel K F H M) : ∀ (n : Nat) (a : Addr) (p : PyData), pyCell M n a = some p → Dp K H (.ref a) p
  | 0, _, _, h => by simp [pyCell] at h
  | n + 1, a, p, h => by
    simp only [pyCell] at h
    split at h
    · rename_i l e
      simp only [Option.map_eq_some_iff] at h
      obtain ⟨ps, h1, rfl⟩ := h
      obtain ⟨vs, e1, e2, _⟩ := R.lst_of e
      exact .lst (SqL.of e1) (pyAll_ok (pyCell_ok R n) R.sub l vs ps e2 h1)
    · cases h
theorem py_ok (R : Rel K F H M) {d : D} {v : V} {p : PyData} (r : DR K F d v) (h : py M d = some p) : Dp K H v p := pyOf_ok (pyCell_ok R 8) R.sub d v p r h
theorem eqZ (hu : X.A.units + 64 < cLine) : OpR X (compareOp .Eq) (rZ X.K (eqW false)) := by
  intro pins s σ H x y v u Q I rx ry ⟨F, M, a, b, R, ra, rb, h⟩
  unfold eqW at h
  split at h
  · cases ra
    cases rb
    refine op_eq pins s σ H _ _ v u Q I rx ry ⟨rfl, ?_⟩
    have := h.here R (.bl _)
    simpa using this
  · cases ra
    cases rb
    refine op_eq pins s σ H _ _ v u Q I rx ry ⟨rfl, ?_⟩
    have := h.here R (.bl _)
    simpa using this
  · cases ra
    cases rb
    refine op_eq pins s σ H _ _ v u Q I rx ry ⟨rfl, ?_⟩
    have := h.here R (.bl _)
    simpa using this
  · obtain ⟨d, e, h1, h2, h3, h4, h5⟩ := h
    refine op_eqD hu pins s σ H _ _ v u Q I rx ry ⟨d, e, py_ok R ra h1, py_ok R rb h2, h3, h4, ?_⟩
    have := h5.here R (.bl _)
    simpa using this
theorem neZ (hu : X.A.units + 64 < cLine) : OpR X (compareOp .NotEq) (rZ X.K (eqW true)) := by
  intro pins s σ H x y v u Q I rx ry ⟨F, M, a, b, R, ra, rb, h⟩
  unfold eqW at h
  split at h
  · cases ra
    cases rb
    refine op_ne pins s σ H _ _ v u Q I rx ry ⟨rfl, ?_⟩
    have := h.here R (.bl _)
    simpa using this
  · cases ra
    cases rb
    refine op_ne pins s σ H _ _ v u Q I rx ry ⟨rfl, ?_⟩
    have := h.here R (.bl _)
    simpa using this
  · cases ra
    cases rb
    refine op_ne pins s σ H _ _ v u Q I rx ry ⟨rfl, ?_⟩
    have := h.here R (.bl _)
    simpa using this
  · obtain ⟨d, e, h1, h2, h3, h4, h5⟩ := h
    refine op_neD hu pins s σ H _ _ v u Q I rx ry ⟨d, e, py_ok R ra h1, py_ok R rb h2, h3, h4, ?_⟩
    have := h5.here R (.bl _)
    simpa using this

/-! ### dicts -/
theorem DRs.find {κ : Type} [DecidableEq κ] {k : κ} : ∀ {l : List (κ × D)} {kvs : List (κ × V)}, kvs.map (·.1) = l.map (·.1) → DRs K F (l.map (·.2)) (kvs.map (·.2)) →
    (dGet l k = none ∧ valV kvs k = none) ∨ ∃ d v, dGet l k = some d ∧ valV kvs k = some v ∧ DR K F d v
  | [], [], _, _ => .inl ⟨rfl, rfl⟩
  | [], _ :: _, e, _ => by simp at e
  | _ :: _, [], e, _ => by simp at e
  | p :: l, q :: kvs, e, r => by
    simp only [List.map_cons, List.cons.injEq] at e r
    cases r with
    | cons r1 r2 =>
      by_cases hk : p.1 = k
      · refine .inr ⟨p.2, q.2, ?_, ?_, r1⟩
        · simp [dGet, hk]
        · simp [valV, e.1, hk]
      · rcases DRs.find (k := k) e.2 r2 with ⟨h1, h2⟩ | ⟨d, v, h1, h2, h3⟩
        · refine .inl ⟨?_, ?_⟩
          · simpa [dGet, hk] using h1
          · simpa [valV, e.1, hk] using h2
        · refine .inr ⟨d, v, ?_, ?_, h3⟩
          · simpa [dGet, hk] using h1
          · simpa [valV, e.1, hk] using h2
theorem zip_fst {α β : Type} : ∀ {ks : List α} {vs : List β}, ks.length = vs.length → (ks.zip vs).map (·.1) = ks
  | [], [], _ => rfl
  | [], _ :: _, h => by simp at h
  | _ :: _, [], h => by simp at h
  | k :: ks, v :: vs, h => by
    simp only [List.zip_cons_cons, List.map_cons]
    rw [zip_fst (by simpa using h)]
theorem zip_snd {α β : Type} : ∀ {ks : List α} {vs : List β}, ks.length = vs.length → (ks.zip vs).map (·.2) = vs
  | [], [], _ => rfl
  | [], _ :: _, h => by simp at h
  | _ :: _, [], h => by simp at h
  | k :: ks, v :: vs, h => by
    simp only [List.zip_cons_cons, List.map_cons]
    rw [zip_snd (by simpa using h)]
theorem Rel.dctOf_of (R : Rel K F H M) {d : D} {v : V} {l : List (Key × D)} (r : DR K F d v) (h : dctOf M d = some l) : ∃ a kvs, v = .ref a ∧ H a = some (.dK kvs) ∧ kvs.map (·.1) = l.map (·.1) ∧ DRs K F (l.map (·.2)) (kvs.map (·.2)) := by
  cases r with
  | @dct a ks ds kvs e k q =>
    simp only [dctOf, Option.some.injEq] at h
    subst h
    have hl : ks.length = ds.length := by rw [q.length, ← k] <;> simp
    exact ⟨a, kvs, rfl, R.sub _ _ e, by rw [zip_fst hl]; exact k, by rw [zip_snd hl]; exact q⟩
  | cell a =>
    simp only [dctOf] at h
    split at h
    · rename_i l' e
      cases h
      obtain ⟨_, u, e1, o⟩ := R.own _ _ e
      cases o with
      | dK k q => exact ⟨a, _, rfl, e1, k, q⟩
    · cases h
  | _ => simp [dctOf] at h
theorem Rel.dttOf_of (R : Rel K F H M) {d : D} {v : V} {l : List (List Key × D)} (r : DR K F d v) (h : dttOf M d = some l) : ∃ a kvs, v = .ref a ∧ H a = some (.dT kvs) ∧ kvs.map (·.1) = l.map (·.1) ∧ DRs K F (l.map (·.2)) (kvs.map (·.2)) := by
  cases r with
  | @dtt a ks ds kvs e k q =>
    simp only [dttOf, Option.some.injEq] at h
    subst h
    have hl : ks.length = ds.length := by rw [q.length, ← k] <;> simp
    exact ⟨a, kvs, rfl, R.sub _ _ e, by rw [zip_fst hl]; exact k, by rw [zip_snd hl]; exact q⟩
  | cell a =>
    simp only [dttOf] at h
    split at h
    · rename_i l' e
      cases h
      obtain ⟨_, u, e1, o⟩ := R.own _ _ e
      cases o with
      | dT k q => exact ⟨a, _, rfl, e1, k, q⟩
    · cases h
  | _ => simp [dttOf] at h
theorem keyOf_ok {d : D} {v : V} {k : Key} (r : DR K F d v) (h : keyOf d = some k) : v = kV k := by
  cases r <;> simp [keyOf] at h
  · subst h; rfl
  · subst h; rfl
theorem keysOf_ok : ∀ {d : List D} {v : List V} {k : List Key}, DRs K F d v → keysOf d = some k → v = k.map kV
  | _, _, _, .nil, h => by simp [keysOf] at h; subst h; rfl
  | _, _, _, .cons r s, h => by
    simp only [keysOf] at h
    split at h
    · rename_i k ks e1 e2
      cases h
      rw [keyOf_ok r e1, keysOf_ok s e2] <;> rfl
    · cases h
theorem dLook_ok (R : Rel K F H M) {o k : D} {x y : V} {r : Option D} (ro : DR K F o x) (rk : DR K F k y) (h : dLook M o k = some r) :
    ∃ a v, x = .ref a ∧ DGet H a y v ∧ ((r = none ∧ v = none) ∨ ∃ d w, r = some d ∧ v = some w ∧ DR K F d w) := by
  unfold dLook at h
  split at h
  · rename_i kvs k' e1 e2
    cases h
    obtain ⟨a, ws, rfl, ha, hk, hr⟩ := R.dctOf_of ro e1
    have ek := keyOf_ok rk e2
    subst ek
    refine ⟨a, valV ws k', rfl, DGet.k ha, ?_⟩
    exact DRs.find hk hr
  · split at h
    · rename_i kvs l e1 _
      simp only [Option.map_eq_some_iff] at h
      obtain ⟨ks, e3, rfl⟩ := h
      obtain ⟨a, ws, rfl, ha, hk, hr⟩ := R.dttOf_of ro e1
      cases rk with
      | @tup b _ vs eb q =>
        have e4 := keysOf_ok q e3
        subst e4
        exact ⟨a, valV ws ks, rfl, DGet.t ha (R.sub _ _ eb), DRs.find hk hr⟩
    · cases h
theorem putK_keys {κ : Type} [DecidableEq κ] {k : κ} {d : D} {v : V} (q : DR K F d v) : ∀ {l : List (κ × D)} {kvs : List (κ × V)}, kvs.map (·.1) = l.map (·.1) → DRs K F (l.map (·.2)) (kvs.map (·.2)) →
    (putK kvs k v).map (·.1) = (dPut l k d).map (·.1) ∧ DRs K F ((dPut l k d).map (·.2)) ((putK kvs k v).map (·.2)) := by
  have anyE : ∀ {l : List (κ × D)} {kvs : List (κ × V)}, kvs.map (·.1) = l.map (·.1) → (kvs.any fun kv => decide (kv.1 = k)) = (l.any fun kv => decide (kv.1 = k)) := by
    intro l kvs e
    have : ∀ {β : Type} (m : List (κ × β)), (m.any fun kv => decide (kv.1 = k)) = (m.map (·.1)).any fun x => decide (x = k) := fun m => by simp [List.any_map, Function.comp_def]
    rw [this, this, e]
  have mapE : ∀ {l : List (κ × D)} {kvs : List (κ × V)}, kvs.map (·.1) = l.map (·.1) → DRs K F (l.map (·.2)) (kvs.map (·.2)) →
      (kvs.map fun kv => if kv.1 = k then (kv.1, v) else kv).map (·.1) = (l.map fun kv => if kv.1 = k then (kv.1, d) else kv).map (·.1) ∧
      DRs K F ((l.map fun kv => if kv.1 = k then (kv.1, d) else kv).map (·.2)) ((kvs.map fun kv => if kv.1 = k then (kv.1, v) else kv).map (·.2)) := by
    intro l
    induction l with
    | nil =>
      intro kvs e r
      cases kvs with
      | nil => exact ⟨rfl, .nil⟩
      | cons _ _ => simp at e
    | cons p l ih =>
      intro kvs e r
      cases kvs with
      | nil => simp at e
      | cons p' kvs =>
        simp only [List.map_cons, List.cons.injEq] at e r
        cases r with
        | cons r1 r2 =>
          obtain ⟨h1, h2⟩ := ih e.2 r2
          by_cases hk : p.1 = k
          · have hk' : p'.1 = k := e.1.trans hk
            simp only [List.map_cons, if_pos hk, if_pos hk']
            exact ⟨by rw [h1, e.1], .cons q h2⟩
          · have hk' : ¬ p'.1 = k := by rw [e.1]; exact hk
            simp only [List.map_cons, if_neg hk, if_neg hk']
            exact ⟨by rw [h1, e.1], .cons r1 h2⟩
  intro l kvs e r
  unfold putK dPut
  rw [anyE e]
  split
  · exact mapE e r
  · simp only [List.map_append, List.map_cons, List.map_nil]
    exact ⟨by rw [e], r.append (.cons q .nil)⟩

/-! ### in, subscripts -/
theorem inV_ints {i : Int} {ns : List Int} : inV (.int i) (ns.map V.int) = decide (i ∈ ns) := by
  unfold inV
  induction ns with
  | nil => simp
  | cons a ns ih =>
    simp only [List.map_cons, List.any_cons, ih, List.mem_cons, eqV]
    rw [Bool.decide_or]
    congr 1
    rw [Bool.beq_eq_decide_eq]
    exact decide_eq_decide.mpr ⟨Eq.symm, Eq.symm⟩
theorem flat_ints (ns : List Int) : (ns.map V.int).all flatV = true := by
  induction ns with
  | nil => rfl
  | cons a ns ih => simpa [flatV] using ih
theorem inZ (hu : X.A.units + 65 < cLine) : OpR X (compareOp .In) (rZ X.K (inW false)) := by
  intro pins s σ H x y v u Q I rx ry ⟨F, M, a, b, R, ra, rb, h⟩
  rcases h with ⟨r, h1, h2⟩ | ⟨i, l, ns, rfl, h2, h3, h4⟩ | ⟨l, d, ds, h1, h2, h3, h4, h5, h6⟩
  · obtain ⟨p, w, rfl, g, hr⟩ := dLook_ok R rb ra h1
    cases ry
    refine d_in (by omega) I g rx fun s' I' => ⟨.bl w.isSome, H, I', rfl, ?_⟩
    have e : w.isSome = r.isSome := by
      rcases hr with ⟨rfl, rfl⟩ | ⟨d, w', rfl, rfl, _⟩ <;> rfl
    rw [e]
    have := h2.here R (.bl _)
    simpa using this
  · cases ra
    obtain ⟨p, vs, rfl, hp, q⟩ := R.seqOf_of rb h2
    have e := q.intsOf h3
    subst e
    refine op_in_seq pins s σ H _ _ v u Q I rx ry ⟨p, _, rfl, hp, rfl, flat_ints _, ?_⟩
    rw [inV_ints]
    have := h4.here R (.bl _)
    simpa using this
  · obtain ⟨p, vs, rfl, hp, q⟩ := R.lstOf_of rb h1
    refine op_inD hu pins s σ H _ _ v u Q I rx ry ⟨d, ds, py_ok R ra h2, .lst hp (pyAll_ok (pyCell_ok R 8) R.sub l vs ds q h3), h4, h5, ?_⟩
    have := h6.here R (.bl _)
    simpa using this
theorem notInZ (hu : X.A.units + 65 < cLine) : OpR X (compareOp .NotIn) (rZ X.K (inW true)) := by
  intro pins s σ H x y v u Q I rx ry ⟨F, M, a, b, R, ra, rb, h⟩
  rcases h with ⟨r, h1, h2⟩ | ⟨i, l, ns, rfl, h2, h3, h4⟩ | ⟨l, d, ds, h1, h2, h3, h4, h5, h6⟩
  · obtain ⟨p, w, rfl, g, hr⟩ := dLook_ok R rb ra h1
    cases ry
    refine d_notIn (by omega) I g rx fun s' I' => ⟨.bl (!w.isSome), H, I', rfl, ?_⟩
    have e : w.isSome = r.isSome := by
      rcases hr with ⟨rfl, rfl⟩ | ⟨d, w', rfl, rfl, _⟩ <;> rfl
    rw [e]
    have := h2.here R (.bl _)
    simpa using this
  · cases ra
    obtain ⟨p, vs, rfl, hp, q⟩ := R.seqOf_of rb h2
    have e := q.intsOf h3
    subst e
    refine op_notIn_seq pins s σ H _ _ v u Q I rx ry ⟨p, _, rfl, hp, rfl, flat_ints _, ?_⟩
    rw [inV_ints]
    have := h4.here R (.bl _)
    simpa using this
  · obtain ⟨p, vs, rfl, hp, q⟩ := R.lstOf_of rb h1
    refine op_notInD hu pins s σ H _ _ v u Q I rx ry ⟨d, ds, py_ok R ra h2, .lst hp (pyAll_ok (pyCell_ok R 8) R.sub l vs ds q h3), h4, h5, ?_⟩
    have := h6.here R (.bl _)
    simpa using this
theorem atI_rel {l : List D} {vs : List V} {i : Int} {d : D} (r : DRs K F l vs) (h : atI l i = some d) : ∃ v, atI vs i = some v ∧ DR K F d v := by
  unfold atI at h ⊢
  rw [r.length] at h
  cases e : ixN vs.length i with
  | none => rw [e] at h; cases h
  | some j =>
    rw [e] at h
    exact r.get h
theorem idxZ (hu : X.A.units + 1 < cLine) : IxR X (rZ X.K idxW) := by
  intro value slice pins s σ H x y v u Q I rx ry ⟨F, M, a, b, R, ra, rb, h⟩ hs
  rcases h with ⟨r, h1, h2⟩ | ⟨l, i, r, h1, rfl, h3, h4⟩ | ⟨z, i, c, rfl, rfl, h3, h4, h5⟩
  · obtain ⟨p, w, rfl, g, hr⟩ := dLook_ok R ra rb h1
    rcases hr with ⟨e, _⟩ | ⟨d, w', e, rfl, hd⟩
    · cases e
    · cases e
      cases rx
      exact tail_any (dict_typeIs I g) PySem.F.slot_dict_getitem.lookup (d_getItem hu I g ry fun w2 s2 I2 r2 => ⟨_, H, I2, r2, h2.here R hd⟩) hs
  · obtain ⟨p, vs, rfl, hp, q⟩ := R.seqOf_of ra h1
    cases rb
    obtain ⟨w, h5, h6⟩ := atI_rel q h3
    rcases hp with hp | hp
    · exact ix_list value slice pins s σ H _ _ v u Q I rx ry ⟨p, vs, i, w, rfl, rfl, hp, h5, h4.here R h6⟩ hs
    · exact ix_tup value slice pins s σ H _ _ v u Q I rx ry ⟨p, vs, i, w, rfl, rfl, hp, h5, h4.here R h6⟩ hs
  · cases ra
    cases rb
    exact ix_str value slice pins s σ H _ _ v u Q I rx ry ⟨z, i, c, rfl, rfl, h3, h4, h5.here R (.str _)⟩ hs
theorem setZ (hu : X.A.units + 1 < cLine) : PSet X fun x y v H Q => ∃ F M a b d, Rel X.K F H M ∧ DR X.K F a x ∧ DR X.K F b y ∧ DR X.K F d v ∧ setW a b d M fun M' => ∀ H', Rel X.K F H' M' → Q H' := by
  intro pins s σ H x y v ov iv u Q I rx ry rv ⟨F, M, a, b, d, R, ra, rb, rd, h⟩
  unfold setW at h
  split at h
  · rename_i p
    cases ra
    split at h
    · rename_i l e
      split at h
      · cases rb
        split at h
        · rename_i j ej
          obtain ⟨vs, e1, e2, _⟩ := R.lst_of e
          rw [e2.length] at ej
          exact set_list pins s σ H _ _ v ov iv u Q I rx ry rv ⟨p, vs, _, j, rfl, rfl, e1, ej, h _ (R.wr e (.lst (e2.set rd j)))⟩
        · exact h.elim
      · exact h.elim
    · rename_i kvs e
      split at h
      · rename_i k ek
        obtain ⟨_, _, e1, o⟩ := R.own _ _ e
        cases o with
        | @dK _ ws hk hr =>
          cases rx
          have e3 := keyOf_ok rb ek
          subst e3
          have hl : ws.length = kvs.length := by simpa using congrArg List.length hk
          obtain ⟨p1, p2⟩ := putK_keys (k := k) rd hk hr
          exact d_setItem hu I (DPut.k e1 (by rw [hl]; exact h.1)) ry rv fun s' I' => ⟨_, I', h.2 _ (R.wr e (.dK p1 p2))⟩
      · exact h.elim
    · rename_i kvs e
      split at h
      · rename_i l
        split at h
        · rename_i k ek
          obtain ⟨_, _, e1, o⟩ := R.own _ _ e
          cases o with
          | @dT _ ws hk hr =>
            cases rx
            cases rb with
            | @tup b _ vs eb q =>
              have e3 := keysOf_ok q ek
              subst e3
              have hl : ws.length = kvs.length := by simpa using congrArg List.length hk
              obtain ⟨p1, p2⟩ := putK_keys (k := k) rd hk hr
              exact d_setItem hu I (DPut.t e1 (R.sub _ _ eb) (by rw [hl]; exact h.1)) ry rv fun s' I' => ⟨_, I', h.2 _ (R.wr e (.dT p1 p2))⟩
        · exact h.elim
      · exact h.elim
    · exact h.elim
  · exact h.elim
end
end Z

set_option Elab.async false
set_option linter.all false
set_option maxRecDepth 100000
/-! Z5: built-in functions, methods, slices by values. -/
namespace Z
open PySem PySem.Spec PyProof.Rows L2
section
variable {X : Cx} {F H : Hp} {M : MM} {K : PySem.W.Frag}
theorem one_of {d : D} {xs : List V} (r : DRs K F [d] xs) : ∃ x, xs = [x] ∧ DR K F d x := by
  cases r with
  | cons r s =>
    cases s
    exact ⟨_, rfl, r⟩
theorem two_of {d e : D} {xs : List V} (r : DRs K F [d, e] xs) : ∃ x y, xs = [x, y] ∧ DR K F d x ∧ DR K F e y := by
  cases r with
  | cons r s =>
    cases s with
    | cons q t =>
      cases t
      exact ⟨_, _, rfl, r, q⟩
theorem lenZ : CallR X (.builtin "len") (rZs X.K (opW .len)) := by
  intro pins s σ H xs us Q I ru ⟨F, M, ds, R, rd, h⟩
  rcases ds with _ | ⟨d, _ | ⟨y, r⟩⟩ <;> simp only [opW] at h
  obtain ⟨x, rfl, rv⟩ := one_of rd
  rcases h with ⟨l, h1, h2⟩ | ⟨l, h1, h2⟩ | ⟨z, rfl, h1, h2⟩
  · obtain ⟨a, vs, rfl, hp, q⟩ := R.seqOf_of rv h1
    have e := q.length
    refine call_len pins s σ H _ us Q I ru ⟨_, vs.length, rfl, ?_, ?_⟩
    · rcases hp with hp | hp
      · exact .inl ⟨vs, hp, rfl⟩
      · exact .inr ⟨vs, hp, rfl⟩
    · rw [← e]
      exact h2.here R (.int _)
  · obtain ⟨a, kvs, rfl, hp, hk, q⟩ := R.dctOf_of rv h1
    have hl : kvs.length = l.length := by simpa using congrArg List.length hk
    refine call_lenD pins s σ H _ us Q I ru ⟨a, kvs, rfl, hp, ?_⟩
    rw [hl]
    exact h2.here R (.int _)
  · cases rv
    exact call_len pins s σ H _ us Q I ru ⟨.str z, z.length, rfl, ⟨h1, rfl⟩, h2.here R (.int _)⟩
theorem absZ : CallR X (.builtin "abs") (rZs X.K (opW .abs)) := by
  intro pins s σ H xs us Q I ru ⟨F, M, ds, R, rd, h⟩
  rcases ds with _ | ⟨x, _ | ⟨y, r⟩⟩
  · simp only [opW] at h
  · obtain ⟨v, rfl, rv⟩ := one_of rd
    cases x <;> simp only [opW] at h
    cases rv
    exact call_abs pins s σ H _ us Q I ru ⟨_, rfl, Out.here R h (.int _)⟩
  · cases x <;> simp only [opW] at h
theorem max2Z (hc : X.calm = true) : CallR X (.builtin "max") (rZs X.K (opW .max2)) := by
  intro pins s σ H xs us Q I ru ⟨F, M, ds, R, rd, h⟩
  rcases ds with _ | ⟨x, _ | ⟨y, _ | ⟨z, r⟩⟩⟩ <;> simp only [opW] at h
  · obtain ⟨v, w, rfl, rv, rw'⟩ := two_of rd
    unfold i2 at h
    split at h
    · cases rv
      cases rw'
      refine call_max2 hc pins s σ H _ us Q I ru ⟨_, _, rfl, ?_⟩
      have := Out.here R h (.int _)
      rename_i i j
      have e : (if j > i then j else i) = max i j := by
        split <;> omega
      rw [e]
      exact this
    · exact h.elim
theorem min2Z (hc : X.calm = true) : CallR X (.builtin "min") (rZs X.K (opW .min2)) := by
  intro pins s σ H xs us Q I ru ⟨F, M, ds, R, rd, h⟩
  rcases ds with _ | ⟨x, _ | ⟨y, _ | ⟨z, r⟩⟩⟩ <;> simp only [opW] at h
  · obtain ⟨v, w, rfl, rv, rw'⟩ := two_of rd
    unfold i2 at h
    split at h
    · cases rv
      cases rw'
      refine call_min2 hc pins s σ H _ us Q I ru ⟨_, _, rfl, ?_⟩
      have := Out.here R h (.int _)
      rename_i i j
      have e : (if j < i then j else i) = min i j := by
        split <;> omega
      rw [e]
      exact this
    · exact h.elim
theorem int1Z : CallR X (.type "int") (rZs X.K (opW .int1)) := by
  intro pins s σ H xs us Q I ru ⟨F, M, ds, R, rd, h⟩
  rcases ds with _ | ⟨x, _ | ⟨y, r⟩⟩
  · simp only [opW] at h
  · obtain ⟨v, rfl, rv⟩ := one_of rd
    cases x <;> simp only [opW] at h
    · cases rv
      exact call_int1 pins s σ H _ us Q I ru (.inr ⟨_, rfl, Out.here R h (.int _)⟩)
    · cases rv
      exact call_int1 pins s σ H _ us Q I ru (.inl ⟨_, rfl, Out.here R h (.int _)⟩)
  · cases x <;> simp only [opW] at h
theorem tuple1Z : CallR X (.type "tuple") (rZs X.K (opW .tuple1)) := by
  intro pins s σ H xs us Q I ru ⟨F, M, ds, R, rd, h⟩
  rcases ds with _ | ⟨d, _ | ⟨y, r⟩⟩ <;> simp only [opW] at h
  obtain ⟨x, rfl, rv⟩ := one_of rd
  have h' := h
  split at h'
  · rename_i l e
    cases d with
    | tup l' =>
      cases e
      cases rv with
      | @tup a _ vs ea q => exact call_tuple_of pins s σ H _ us Q I ru ⟨a, vs, rfl, .inr ⟨SqT.of (R.sub _ _ ea), h'.here R (.tup ea q)⟩⟩
    | _ =>
      obtain ⟨a, vs, rfl, hp, q⟩ := R.lstOf_of rv e
      exact call_tuple_of pins s σ H _ us Q I ru ⟨a, vs, rfl, .inl ⟨hp, newT_ok R h' q⟩⟩
  · exact h'.elim
theorem keys_rel : ∀ (l : List (Key × D)) (kvs : List (Key × V)), kvs.map (·.1) = l.map (·.1) → DRs K F (l.map fun kv => match kv.1 with
    | .inl i => D.int i
    | .inr s => D.str s) (kvs.map fun kv => kV kv.1)
  | [], [], _ => .nil
  | [], _ :: _, h => by simp at h
  | _ :: _, [], h => by simp at h
  | p :: l, q :: kvs, h => by
    simp only [List.map_cons, List.cons.injEq] at h ⊢
    refine .cons ?_ (keys_rel l kvs h.2)
    rw [h.1]
    cases p.1 with
    | inl i => exact .int i
    | inr s => exact .str s
theorem list1Z (hc : X.calm = true) (k : Bool) : CallR X (.type "list") (rZs X.K (opW (.list1 k))) := by
  intro pins s σ H xs us Q I ru ⟨F, M, ds, R, rd, h⟩
  rcases ds with _ | ⟨d, _ | ⟨y, r⟩⟩ <;> simp only [opW] at h
  obtain ⟨x, rfl, rv⟩ := one_of rd
  rcases h with ⟨l, h1, h2⟩ | ⟨l, h1, h2⟩
  · obtain ⟨a, vs, rfl, hp, q⟩ := R.seqOf_of rv h1
    exact call_list_of pins s σ H _ us Q I ru ⟨a, vs, rfl, hp, (newL_ok R h2 q).2⟩
  · obtain ⟨a, kvs, rfl, hp, hk, q⟩ := R.dctOf_of rv h1
    exact call_listD hc pins s σ H _ us Q I ru ⟨a, kvs, rfl, Rd.of hp, (newL_ok R h2 (keys_rel l kvs hk)).2⟩
theorem intsW_ok (R : Rel K F H M) {d : D} {v : V} {k : List Int → Prop} (r : DR K F d v) (h : intsW d M k) : ∃ a ns, v = .ref a ∧ SqL K H a (ns.map V.int) ∧ k ns := by
  obtain ⟨l, ns, h1, h2, h3⟩ := h
  obtain ⟨a, vs, rfl, hp, q⟩ := R.lstOf_of r h1
  have e := q.intsOf h2
  subst e
  exact ⟨a, ns, rfl, hp, h3⟩
theorem sum1Z (hc : X.calm = true) : CallR X (.builtin "sum") (rZs X.K (opW .sum1)) := by
  intro pins s σ H xs us Q I ru ⟨F, M, ds, R, rd, h⟩
  rcases ds with _ | ⟨d, _ | ⟨y, r⟩⟩ <;> simp only [opW] at h
  obtain ⟨x, rfl, rv⟩ := one_of rd
  obtain ⟨a, ns, rfl, hp, h3⟩ := intsW_ok R rv h
  exact cr_sum hc pins s σ H _ us Q I ru ⟨a, ns, rfl, hp, h3.here R (.int _)⟩
theorem imax_eq : ∀ {ns : List Int} {m : Int}, m ∈ ns → (∀ y, y ∈ ns → y ≤ m) → m = imax ns
  | [], _, h, _ => by cases h
  | [a], m, h, _ => by simpa [imax] using h
  | a :: b :: r, m, h, h2 => by
    show m = max a (imax (b :: r))
    have ha := h2 a (by simp)
    have hr : ∀ {l : List Int}, l ≠ [] → imax l ∈ l := by
      intro l
      induction l with
      | nil => intro h; exact absurd rfl h
      | cons x l ih =>
        intro _
        cases l with
        | nil => simp [imax]
        | cons y l =>
          have ih := ih (by simp)
          show max x (imax (y :: l)) ∈ _
          rcases Int.le_total x (imax (y :: l)) with h | h
          · rw [Int.max_eq_right h]; exact List.mem_cons_of_mem _ ih
          · rw [Int.max_eq_left h]; exact List.mem_cons_self
    have hm := h2 (imax (b :: r)) (List.mem_cons_of_mem _ (hr (by simp)))
    rcases List.mem_cons.mp h with e | e
    · subst e; omega
    · have := imax_eq e (fun y hy => h2 y (List.mem_cons_of_mem _ hy))
      omega
theorem imin_eq : ∀ {ns : List Int} {m : Int}, m ∈ ns → (∀ y, y ∈ ns → m ≤ y) → m = imin ns
  | [], _, h, _ => by cases h
  | [a], m, h, _ => by simpa [imin] using h
  | a :: b :: r, m, h, h2 => by
    show m = min a (imin (b :: r))
    have ha := h2 a (by simp)
    have hr : ∀ {l : List Int}, l ≠ [] → imin l ∈ l := by
      intro l
      induction l with
      | nil => intro h; exact absurd rfl h
      | cons x l ih =>
        intro _
        cases l with
        | nil => simp [imin]
        | cons y l =>
          have ih := ih (by simp)
          show min x (imin (y :: l)) ∈ _
          rcases Int.le_total x (imin (y :: l)) with h | h
          · rw [Int.min_eq_left h]; exact List.mem_cons_self
          · rw [Int.min_eq_right h]; exact List.mem_cons_of_mem _ ih
    have hm := h2 (imin (b :: r)) (List.mem_cons_of_mem _ (hr (by simp)))
    rcases List.mem_cons.mp h with e | e
    · subst e; omega
    · have := imin_eq e (fun y hy => h2 y (List.mem_cons_of_mem _ hy))
      omega
theorem maxOf_int : ∀ (xs : List Int) (x : Int), PySem.W.maxOf x xs = imax (x :: xs)
  | [], x => rfl
  | y :: ys, x => by
    have e : (if PySem.W.DatumOrd.lt x y = true then y else x) = max x y := by
      show (if decide (x < y) = true then y else x) = max x y
      by_cases h : x < y
      · rw [if_pos (decide_eq_true h)]; omega
      · rw [if_neg (by simpa using h)]; omega
    show PySem.W.maxOf (if PySem.W.DatumOrd.lt x y = true then y else x) ys = _
    rw [e, maxOf_int ys (max x y)]
    cases ys with
    | nil => rfl
    | cons z zs =>
      show max (max x y) (imax (z :: zs)) = max x (max y (imax (z :: zs)))
      omega
theorem minOf_int : ∀ (xs : List Int) (x : Int), PySem.W.minOf x xs = imin (x :: xs)
  | [], x => rfl
  | y :: ys, x => by
    have e : (if PySem.W.DatumOrd.lt y x = true then y else x) = min x y := by
      show (if decide (y < x) = true then y else x) = min x y
      by_cases h : y < x
      · rw [if_pos (decide_eq_true h)]; omega
      · rw [if_neg (by simpa using h)]; omega
    show PySem.W.minOf (if PySem.W.DatumOrd.lt y x = true then y else x) ys = _
    rw [e, minOf_int ys (min x y)]
    cases ys with
    | nil => rfl
    | cons z zs =>
      show min (min x y) (imin (z :: zs)) = min x (min y (imin (z :: zs)))
      omega
theorem holds_int_of {h : Heap} {v : Value} {n : Int} (H : PySem.W.Holds h v n) : ∃ t, v = .int n t := by
  obtain ⟨as, r⟩ := H
  cases r
  exact ⟨_, rfl⟩
theorem intsS_ok (R : Rel K F H M) {d : D} {v : V} {k : List Int → Prop} (r : DR K F d v) (h : intsS d M k) : ∃ a ns, v = .ref a ∧ (SqL K H a (ns.map V.int) ∨ SqT K H a (ns.map V.int)) ∧ k ns := by
  obtain ⟨l, ns, h1, h2, h3⟩ := h
  obtain ⟨a, vs, rfl, hp, q⟩ := R.seqOf_of r h1
  have e := q.intsOf h2
  subst e
  exact ⟨a, ns, rfl, hp, h3⟩
theorem max1Z (hu : X.A.units + 1 < cLine) (hc : X.calm = true) : CallR X (.builtin "max") (rZs X.K (opW .max1)) := by
  intro pins s σ H xs us Q I ru ⟨F, M, ds, R, rd, h⟩
  rcases ds with _ | ⟨d, _ | ⟨y, r⟩⟩ <;> simp only [opW] at h
  obtain ⟨x, rfl, rv⟩ := one_of rd
  obtain ⟨a, ns, rfl, hp, h3, h4⟩ := intsS_ok R rv h
  rcases hp with hp | hp
  · refine cr_max hc pins s σ H _ us Q I ru ⟨a, ns, rfl, hp, List.length_pos_iff.mpr h3, fun m h1 h2 => ?_⟩
    rw [imax_eq h1 h2]
    exact h4.here R (.int _)
  · obtain ⟨its, rr, ht, _⟩ := I.tuple hp
    rw [Vals.ref1 ru]
    cases ns with
    | nil => exact absurd rfl h3
    | cons n ns =>
      refine PySem.W.max_tuple_datum (α := Int) (x := n) (xs := ns) (I.ok.hd hc) ht (PySem.W.HoldAll.of_ints (by simpa using rr.ints)) hu fun i v h' tk _ hh hk => ?_
      obtain ⟨t, rfl⟩ := holds_int_of hh
      exact ⟨.int _, H, I.kept hk, ⟨_, rfl⟩, by rw [maxOf_int]; exact h4.here R (.int _)⟩
theorem min1Z (hu : X.A.units + 1 < cLine) (hc : X.calm = true) : CallR X (.builtin "min") (rZs X.K (opW .min1)) := by
  intro pins s σ H xs us Q I ru ⟨F, M, ds, R, rd, h⟩
  rcases ds with _ | ⟨d, _ | ⟨y, r⟩⟩ <;> simp only [opW] at h
  obtain ⟨x, rfl, rv⟩ := one_of rd
  obtain ⟨a, ns, rfl, hp, h3, h4⟩ := intsS_ok R rv h
  rcases hp with hp | hp
  · refine cr_min hc pins s σ H _ us Q I ru ⟨a, ns, rfl, hp, List.length_pos_iff.mpr h3, fun m h1 h2 => ?_⟩
    rw [imin_eq h1 h2]
    exact h4.here R (.int _)
  · obtain ⟨its, rr, ht, _⟩ := I.tuple hp
    rw [Vals.ref1 ru]
    cases ns with
    | nil => exact absurd rfl h3
    | cons n ns =>
      refine PySem.W.min_tuple_datum (α := Int) (x := n) (xs := ns) (I.ok.hd hc) ht (PySem.W.HoldAll.of_ints (by simpa using rr.ints)) hu fun i v h' tk _ hh hk => ?_
      obtain ⟨t, rfl⟩ := holds_int_of hh
      exact ⟨.int _, H, I.kept hk, ⟨_, rfl⟩, by rw [minOf_int]; exact h4.here R (.int _)⟩
theorem all1Z (hc : X.calm = true) : CallR X (.builtin "all") (rZs X.K (opW .all1)) := by
  intro pins s σ H xs us Q I ru ⟨F, M, ds, R, rd, h⟩
  rcases ds with _ | ⟨d, _ | ⟨y, r⟩⟩ <;> simp only [opW] at h
  obtain ⟨x, rfl, rv⟩ := one_of rd
  obtain ⟨l, bs, h1, h2, h3⟩ := h
  obtain ⟨a, vs, rfl, hp, q⟩ := R.lstOf_of rv h1
  have e := q.blsOf h2
  subst e
  exact cr_all hc pins s σ H _ us Q I ru ⟨a, bs, rfl, hp, h3.here R (.bl _)⟩

/-! ### sorted -/
theorem perm_sorted_eq {l m : List Int} (p : l.Perm m) (h1 : l.Pairwise (· ≤ ·)) (h2 : m.Pairwise (· ≤ ·)) : l = m :=
  p.eq_of_pairwise (fun a b _ _ h1 h2 => Int.le_antisymm h1 h2) h1 h2
theorem isort_ok (l : List Int) : (isort l).Perm l ∧ (isort l).Pairwise (· ≤ ·) := by
  refine ⟨List.mergeSort_perm _ _, ?_⟩
  have := List.pairwise_mergeSort (le := fun a b : Int => decide (a ≤ b)) (by intro a b c; simp; omega) (by intro a b; simp; omega) l
  exact this.imp (by intro a b h; simpa using h)
theorem psort_ok (l : List (Int × Int)) : (psort l).Perm l ∧ (psort l).Pairwise (fun a b => pairLe a b = true) := by
  refine ⟨List.mergeSort_perm _ _, ?_⟩
  refine List.pairwise_mergeSort (le := pairLe) ?_ ?_ l
  · intro a b c
    simp only [pairLe, decide_eq_true_eq]
    omega
  · intro a b
    simp only [pairLe, Bool.or_eq_true, decide_eq_true_eq]
    omega
theorem pair_eq_of_sorted {l m : List (Int × Int)} (p : l.Perm m) (h1 : l.Pairwise (fun a b => pairLe a b = true)) (h2 : m.Pairwise (fun a b => pairLe a b = true)) : l = m :=
  p.eq_of_pairwise (fun a b _ _ h1 h2 => by
    simp only [pairLe, decide_eq_true_eq] at h1 h2
    apply Prod.ext <;> omega) h1 h2
/-- a list of pairs, by what each one is -/
theorem pairs_rel : ∀ {l : List D} {vs : List V} {ps : List (Int × Int)}, DRs K F l vs → pairsOf l = some ps →
    l = ps.map pr ∧ ∃ k : V → Int × Int, vs.map k = ps ∧ ∀ y ∈ vs, ∃ t, y = V.ref t ∧ F t = some (.tup [.int (k y).1, .int (k y).2]) := by
  -- k reads the tuple at the address
  intro l vs ps r h
  let k : V → Int × Int := fun v => match v with
    | .ref t => (match F t with
      | some (.tup [.int i, .int j]) => (i, j)
      | _ => (0, 0))
    | _ => (0, 0)
  suffices ∀ {l : List D} {vs : List V} {ps : List (Int × Int)}, DRs K F l vs → pairsOf l = some ps → l = ps.map pr ∧ vs.map k = ps ∧ ∀ y ∈ vs, ∃ t, y = V.ref t ∧ F t = some (.tup [.int (k y).1, .int (k y).2]) by
    obtain ⟨h1, h2, h3⟩ := this r h
    exact ⟨h1, k, h2, h3⟩
  intro l
  induction l with
  | nil =>
    intro vs ps r h
    cases r
    cases h
    exact ⟨rfl, rfl, fun y hy => by cases hy⟩
  | cons d l ih =>
    intro vs ps r h
    cases r with
    | cons r1 r2 =>
      simp only [pairsOf] at h
      split at h
      · rename_i p ps' e1 e2
        cases h
        obtain ⟨h1, h2, h3⟩ := ih r2 e2
        unfold pairOf at e1
        split at e1
        · rename_i i j
          cases e1
          cases r1 with
          | @tup t _ ws et q =>
            obtain ⟨x, y, rfl, q1, q2⟩ := two_of q
            cases q1
            cases q2
            have ek : k (.ref t) = (i, j) := by simp only [k, et]
            refine ⟨by rw [h1]; rfl, by rw [List.map_cons, ek, h2], fun y hy => ?_⟩
            rcases List.mem_cons.mp hy with rfl | hy
            · exact ⟨t, rfl, by rw [ek]; exact et⟩
            · exact h3 y hy
        · cases e1
      · cases h
theorem sorted1Z (k : Bool) : CallR X (.builtin "sorted") (rZs X.K (opW (.sorted1 k))) := by
  intro pins s σ H xs us Q I ru ⟨F, M, ds, R, rd, h⟩
  rcases ds with _ | ⟨d, _ | ⟨y, r⟩⟩ <;> simp only [opW] at h
  obtain ⟨x, rfl, rv⟩ := one_of rd
  rcases h with ⟨l, ns, h1, h2, h3⟩ | ⟨l, ps, h1, h2, h3⟩
  · obtain ⟨a, vs, rfl, hp, q⟩ := R.lstOf_of rv h1
    have e := q.intsOf h2
    subst e
    refine cr_sortedI pins s σ H _ us Q I ru ⟨a, ns, rfl, hp, fun ns' p pm hs hn => ?_⟩
    have e2 : ns' = isort ns := perm_sorted_eq (pm.trans (isort_ok ns).1.symm) hs (isort_ok ns).2
    rw [e2]
    exact (newL_ok R h3 (DRs.ints _)).2 p hn
  · obtain ⟨a, vs, rfl, hp, q⟩ := R.lstT_of rv h1
    obtain ⟨el, key, hk, hall⟩ := pairs_rel q h2
    refine cr_sortedPO pins s σ H _ us Q I ru ⟨a, vs, key, rfl, SqL.of hp, fun y hy => ?_, fun ys p hs hst hn => ?_⟩
    · obtain ⟨t, e1, e2⟩ := hall y hy
      exact ⟨t, e1, R.sub _ _ e2⟩
    · have e2 : ys.map key = psort ps := by
        refine pair_eq_of_sorted ?_ ?_ (psort_ok ps).2
        · rw [← hk]
          exact (hst.perm.map key).trans (psort_ok _).1.symm
        · rw [List.pairwise_map]
          refine List.Pairwise.imp ?_ hs
          intro u w hw
          simp only [pairLe, decide_eq_true_eq]
          have hw' : SrtO.lexB (key w) (key u) = false := hw
          rw [← Bool.not_eq_true, SrtO.lexB_iff] at hw'
          omega
      have e3 : DRs X.K F ((psort ps).map pr) ys := by
        rw [← e2]
        have hy : ∀ y ∈ ys, ∃ t, y = V.ref t ∧ F t = some (.tup [.int (key y).1, .int (key y).2]) := fun y hy => hall y (hst.perm.mem_iff.mp hy)
        clear e2 hn hs hst
        induction ys with
        | nil => exact .nil
        | cons y ys ih =>
          obtain ⟨t, e1, e4⟩ := hy y List.mem_cons_self
          refine .cons ?_ (ih fun z hz => hy z (List.mem_cons_of_mem _ hz))
          rw [e1]
          rw [e1] at e4
          exact .tup e4 (.cons (.int _) (.cons (.int _) .nil))
      exact (newL_ok R h3 e3).2 p hn

/-! ### isinstance -/
theorem ty_rel (R : Rel K F H M) {d : D} {v : V} {t : String} (r : DR K F d v) (h : tyNm M d = some t) : TyX K H v (.type t) ∧ (t = "NoneType" ∨ t = "bool" ∨ t = "int" ∨ t = "str" ∨ t = "tuple" ∨ t = "list" ∨ t = "dict") := by
  cases r with
  | non => cases h; exact ⟨.base .non, by simp⟩
  | bl b => cases h; exact ⟨.base (.bl b), by simp⟩
  | int b => cases h; exact ⟨.base (.int b), by simp⟩
  | str b => cases h; exact ⟨.base (.str b), by simp⟩
  | tup e _ => cases h; exact ⟨.base (.tup (R.sub _ _ e)), by simp⟩
  | lst e _ => cases h; exact ⟨.base (.lst (R.sub _ _ e)), by simp⟩
  | dct e _ _ => cases h; exact ⟨.base (.dK (R.sub _ _ e)), by simp⟩
  | dtt e _ _ => cases h; exact ⟨.base (.dT (R.sub _ _ e)), by simp⟩
  | cell a =>
    simp only [tyNm] at h
    split at h
    · rename_i l e
      cases h
      obtain ⟨vs, e1, _, _⟩ := R.lst_of e
      exact ⟨.base (.lst e1), by simp⟩
    · rename_i l e
      cases h
      obtain ⟨_, u, e1, o⟩ := R.own _ _ e
      cases o
      exact ⟨.base (.dK e1), by simp⟩
    · rename_i l e
      cases h
      obtain ⟨_, u, e1, o⟩ := R.own _ _ e
      cases o
      exact ⟨.base (.dT e1), by simp⟩
    · cases h
  | _ => simp [tyNm] at h
theorem kit_sub {t c : String} (ht : t = "NoneType" ∨ t = "bool" ∨ t = "int" ∨ t = "str" ∨ t = "tuple" ∨ t = "list" ∨ t = "dict") (hc : knownTy c = true) : PySem.W.kitOne K (.type t) (.type c) = some (subTy t c) := by
  have hc' : c = "int" ∨ c = "bool" ∨ c = "str" ∨ c = "tuple" ∨ c = "list" ∨ c = "dict" := by
    simpa [knownTy, or_assoc] using hc
  rcases ht with rfl | rfl | rfl | rfl | rfl | rfl | rfl <;> rcases hc' with rfl | rfl | rfl | rfl | rfl | rfl <;> exact kit_ty (by decide +kernel)
theorem isinstZ : CallR X (.builtin "isinstance") (rZs X.K (opW .isinst)) := by
  intro pins s σ H xs us Q I ru ⟨F, M, ds, R, rd, h⟩
  rcases ds with _ | ⟨d, _ | ⟨c, _ | ⟨z, r⟩⟩⟩ <;> simp only [opW] at h
  obtain ⟨x, y, rfl, rx, ry⟩ := two_of rd
  unfold isiW at h
  split at h
  · rename_i t n e
    cases ry
    obtain ⟨h1, h2⟩ := ty_rel R rx e
    exact call_isi pins s σ H _ us Q I ru ⟨x, _, _, _, _, rfl, .ty _, h1, kit_sub h2 h.1, h.2.here R (.bl _)⟩
  · rename_i t n m e
    cases ry with
    | @tup a _ vs ea q =>
      obtain ⟨u, w, rfl, q1, q2⟩ := two_of q
      cases q1
      cases q2
      obtain ⟨h1, h2⟩ := ty_rel R rx e
      refine call_isiT pins s σ H _ us Q I ru ⟨x, a, _, _, [.type n, .type m], _, rfl, R.sub _ _ ea, .cons (.ty _) (.cons (.ty _) .nil), h1, ?_, h.2.2.here R (.bl _)⟩
      refine kitAny_cons (kit_sub h2 h.1) (fun e0 => kitAny_cons (kit_sub h2 h.2.1) (fun e1 => ?_) fun e1 => ?_) fun e0 => ?_
      · rw [e0, e1]
        rfl
      · rw [e1]
        simp
      · rw [e0]
        simp
  · exact h.elim

/-! ### methods of lists -/
theorem mtTy_ok (R : Rel K F H M) {m : Mt} {d : D} {v : V} (r : DR K F d v) (h : mtTy m d M) : tyV K "list" v H := by
  obtain ⟨a, l, rfl, e⟩ := h
  cases r
  obtain ⟨vs, e1, _, _⟩ := R.lst_of e
  exact .inl ⟨rfl, vs, SqL.of e1⟩
/-- what a method asks, by the data -/
def rM (K : PySem.W.Frag) (m : Mt) : V → List V → Hp → VK → Prop := fun x xs H Q => ∃ F M d ds, Rel K F H M ∧ DR K F d x ∧ DRs K F ds xs ∧ mtW m d ds M (Out K F Q)
theorem appendZ : MtR X "list.append" (rM X.K .append) := by
  intro pins s σ H x xs v us Q I rv ru hh
  obtain ⟨F, M, d, ds, R, rd, rds, a, l, rfl, e, h⟩ := hh
  cases rd
  obtain ⟨vs, e1, e2, _⟩ := R.lst_of e
  rcases ds with _ | ⟨y, _ | ⟨z, r⟩⟩
  · exact h.elim
  · obtain ⟨w, rfl, rw'⟩ := one_of rds
    exact mt_append pins s σ H _ _ v us Q I rv ru ⟨a, vs, w, rfl, rfl, e1, by rw [← e2.length]; exact h.1, h.2.here (R.wr e (.lst (e2.append (.cons rw' .nil)))) .non⟩
  · exact h.elim
theorem extendZ : MtR X "list.extend" (rM X.K .extend) := by
  intro pins s σ H x xs v us Q I rv ru hh
  obtain ⟨F, M, d, ds, R, rd, rds, a, l, rfl, e, h⟩ := hh
  cases rd
  obtain ⟨vs, e1, e2, _⟩ := R.lst_of e
  rcases ds with _ | ⟨y, _ | ⟨z, r⟩⟩
  · exact h.elim
  · obtain ⟨w, rfl, rw'⟩ := one_of rds
    have h' : (match lstT M y with
      | some r => l.length + r.length ≤ sizeLine ∧ Out X.K F Q .non (put M a (.lst (l ++ r)))
      | none => False) := h
    split at h'
    · rename_i r er
      obtain ⟨b, ws, rfl, e3, e4⟩ := R.lstT_of rw' er
      exact mt_extend pins s σ H _ _ v us Q I rv ru ⟨a, b, vs, ws, rfl, rfl, e1, e3, by rw [← e2.length, ← e4.length]; exact h'.1, h'.2.here (R.wr e (.lst (e2.append e4))) .non⟩
    · exact h'.elim
  · exact h.elim
theorem insertZ : MtR X "list.insert" (rM X.K .insert) := by
  intro pins s σ H x xs v us Q I rv ru hh
  obtain ⟨F, M, d, ds, R, rd, rds, a, l, rfl, e, h⟩ := hh
  cases rd
  obtain ⟨vs, e1, e2, _⟩ := R.lst_of e
  rcases ds with _ | ⟨i, _ | ⟨y, _ | ⟨z, r⟩⟩⟩
  · exact h.elim
  · cases i <;> exact h.elim
  · cases i with
    | int i =>
      obtain ⟨w1, w, rfl, rw1, rw'⟩ := two_of rds
      cases rw1
      exact mt_insert pins s σ H _ _ v us Q I rv ru ⟨a, vs, i, w, rfl, rfl, e1, by rw [← e2.length]; exact h.1, h.2.1, h.2.2.1, h.2.2.2.here (R.wr e (.lst (((e2.take _).append (.cons rw' .nil)).append (e2.drop _)))) .non⟩
    | _ => exact h.elim
  · cases i <;> exact h.elim
theorem clearZ : MtR X "list.clear" (rM X.K .clear) := by
  intro pins s σ H x xs v us Q I rv ru hh
  obtain ⟨F, M, d, ds, R, rd, rds, a, l, rfl, e, h⟩ := hh
  cases rd
  obtain ⟨vs, e1, e2, _⟩ := R.lst_of e
  rcases ds with _ | ⟨y, r⟩
  · cases rds
    exact mt_clear pins s σ H _ _ v us Q I rv ru ⟨a, vs, rfl, rfl, e1, Out.here (R.wr e (.lst .nil)) h .non⟩
  · exact h.elim
theorem popZ : MtR X "list.pop" (rM X.K .pop) := by
  intro pins s σ H x xs v us Q I rv ru hh
  obtain ⟨F, M, d, ds, R, rd, rds, a, l, rfl, e, h⟩ := hh
  cases rd
  obtain ⟨vs, e1, e2, _⟩ := R.lst_of e
  rcases ds with _ | ⟨y, r⟩
  · cases rds
    have h' : (match l[l.length - 1]? with
      | some y => Out X.K F Q y (put M a (.lst l.dropLast))
      | none => False) := h
    split at h'
    · rename_i y ey
      rw [e2.length] at ey
      obtain ⟨w, ew, rw'⟩ := e2.get ey
      exact mt_pop pins s σ H _ _ v us Q I rv ru ⟨a, vs, w, rfl, rfl, e1, ew, h'.here (R.wr e (.lst e2.dropLast)) rw'⟩
    · exact h'.elim
  · exact h.elim
theorem popAtZ : MtR X "list.pop" (rM X.K .popAt) := by
  intro pins s σ H x xs v us Q I rv ru hh
  obtain ⟨F, M, d, ds, R, rd, rds, a, l, rfl, e, h⟩ := hh
  cases rd
  obtain ⟨vs, e1, e2, _⟩ := R.lst_of e
  rcases ds with _ | ⟨i, _ | ⟨z, r⟩⟩
  · exact h.elim
  · cases i with
    | int i =>
      obtain ⟨w1, rfl, rw1⟩ := one_of rds
      cases rw1
      have h' : -(2 ^ 63) ≤ i ∧ i < 2 ^ 63 ∧ (match seqIndex? i l.length with
        | some k => (match l[k]? with
          | some y => Out X.K F Q y (put M a (.lst (l.eraseIdx k)))
          | none => False)
        | none => False) := h
      obtain ⟨q1, q2, h'⟩ := h'
      split at h'
      · rename_i k ek
        split at h'
        · rename_i y ey
          obtain ⟨w, ew, rw'⟩ := e2.get ey
          exact mt_popAt pins s σ H _ _ v us Q I rv ru ⟨a, vs, i, k, w, rfl, rfl, e1, q1, q2, by rw [← e2.length]; exact ek, ew, h'.here (R.wr e (.lst (e2.eraseIdx k))) rw'⟩
        · exact h'.elim
      · exact h'.elim
    | _ => exact h.elim
  · cases i <;> exact h.elim

/-! ### slices -/
theorem cut_rel {l : List D} {vs : List V} (r : DRs K F l vs) (lo hi : Option Int) : DRs K F (cutD l lo hi) (cutV vs lo hi) := by
  unfold cutD cutV
  rw [r.length]
  exact (r.drop _).take _
/-- e[lo:hi], by the data -/
def rSl (K : PySem.W.Frag) (k : Bool) : V → Option Int → Option Int → Hp → VK → Prop := fun x lo hi H Q => ∃ F M d, Rel K F H M ∧ DR K F d x ∧ sliceW k d lo hi M (Out K F Q)
theorem sliceZ (k : Bool) : SlR X (rSl X.K k) := by
  intro pins s σ H x v vl vu lo hi sl Q I rx hs pl pu ⟨F, M, d, R, rd, h⟩
  unfold sliceW at h
  cases d with
  | tup l =>
    cases rd with
    | @tup p _ vs ea q =>
      refine sl_tupA pins s σ H _ v vl vu lo hi sl Q I rx hs pl pu ⟨p, vs, rfl, SqT.of (R.sub _ _ ea), fun e => ?_, fun _ => newT_ok R h (cut_rel q lo hi)⟩
      have e2 : cutD l lo hi = l := by
        unfold cutD
        rw [q.length, e.1, e.2, ← q.length]
        simp
      have h' : Out X.K F Q (.tup (cutD l lo hi)) M := h
      rw [e2] at h'
      exact h'.here R (.tup ea q)
  | _ =>
    have h' := h
    simp only at h'
    split at h'
    · rename_i l e
      obtain ⟨p, vs, rfl, hp, q⟩ := R.lstOf_of rd e
      exact sl_list pins s σ H _ v vl vu lo hi sl Q I rx hs pl pu ⟨p, vs, rfl, hp, (newL_ok R h' (cut_rel q lo hi)).2⟩
    · exact h'.elim
end
end Z

set_option Elab.async false
set_option linter.all false
set_option maxRecDepth 100000
set_option maxHeartbeats 2000000
/-! Z51: calls within calls: sorted(set(x)), len(set(x)), list(range(n)). -/
namespace Z
open PySem PySem.Spec PyProof.Rows L2
theorem ded_mem : ∀ {l : List Int} {x : Int}, x ∈ ded l ↔ x ∈ l
  | [], x => by simp [ded]
  | a :: l, x => by
    unfold ded
    split
    · rename_i h
      rw [ded_mem, List.mem_cons]
      exact ⟨.inr, fun z => z.elim (fun e => e ▸ h) id⟩
    · rw [List.mem_cons, List.mem_cons, ded_mem]
theorem ded_nodup : ∀ (l : List Int), (ded l).Nodup
  | [] => List.nodup_nil
  | a :: l => by
    unfold ded
    split
    · exact ded_nodup l
    · rename_i h
      exact List.nodup_cons.mpr ⟨fun z => h (ded_mem.mp z), ded_nodup l⟩
theorem ded_len (l : List Int) : (ded l).length ≤ l.length := by
  induction l with
  | nil => simp [ded]
  | cons a l ih =>
    unfold ded
    split
    · simp; omega
    · simp; omega
theorem perm_of_same : ∀ {l m : List Int}, l.Nodup → m.Nodup → (∀ x, x ∈ l ↔ x ∈ m) → l.Perm m
  | [], m, _, _, h => by
    cases m with
    | nil => exact .refl _
    | cons b m => have := (h b).mpr (by simp); simp at this
  | a :: l, m, hl, hm, h => by
    have ha : a ∈ m := (h a).mp (by simp)
    have hl' := List.nodup_cons.mp hl
    refine List.Perm.trans (List.Perm.cons a (perm_of_same hl'.2 (hm.erase a) fun x => ?_)) (List.perm_cons_erase ha).symm
    rw [List.Nodup.mem_erase_iff hm]
    constructor
    · intro hx
      exact ⟨fun e => hl'.1 (e ▸ hx), (h x).mp (List.mem_cons_of_mem _ hx)⟩
    · rintro ⟨h1, h2⟩
      rcases List.mem_cons.mp ((h x).mpr h2) with e | e
      · exact absurd e h1
      · exact e
/-- the set of a list's, a tuple's ints -/
def rSetI (X : Cx) : List V → Hp → VK → Prop := fun vs H Q => ∃ (a : Addr) (ns : List Int), vs = [.ref a] ∧ (SqL X.K H a (ns.map V.int) ∨ SqT X.K H a (ns.map V.int)) ∧ ns.length + 1 < scanBound ∧
  ∀ p, H p = none → Q (.ref p) (upd H p (SetO X.w p (fun j => decide (j ∈ ns)) (ded ns).length))
theorem setR_size {w : World} {h : Heap} {a : Addr} {ns : List Int} {n : Nat} (R : SetR w h a (fun j => decide (j ∈ ns)) n) : n = (ded ns).length := by
  obtain ⟨o, es, ep, t, _, _, _, _, nd, hm, _, _, hn, _⟩ := R
  have p : (es.toList.map L2.keyOf).Perm (ded ns) := perm_of_same nd (ded_nodup ns) fun x => by
    rw [← hm x, ded_mem]
    exact decide_eq_true_iff
  have := p.length_eq
  rw [List.length_map, Array.length_toList] at this
  omega
variable {X : Cx}
theorem cr_setI (hc : X.calm = true) : CallR X (.type "set") (rSetI X) := by
  intro pins s σ H vs us Q I ru h
  obtain ⟨a, ns, rfl, hq, hb, q⟩ := h
  rw [Vals.ref1 ru]
  have fin : ∀ (h' : Heap) (tk c : Nat), SetR X.w h' s.heap.objs.size (fun j => decide (j ∈ ns)) c → (∀ b o, s.heap.get? b = some o → h'.get? b = some o) → EP X pins σ Q (.ref s.heap.objs.size) { s with heap := h', toks := tk } := fun h' tk c R k => by
    have e := setR_size R
    subst e
    exact ⟨.ref _, _, I.laid (t' := tk) k (Nat.le_refl _) (setO_new R), rfl, q _ (I.hok.fresh (Nat.le_refl _))⟩
  rcases hq with hq | hq
  · obtain ⟨its, r, pl, _⟩ := I.list hq
    exact call_setL ns (I.ok.hd hc) pl.isList (by simpa using r.ints) hb fun h' tk c R _ k => fin h' tk c R k
  · obtain ⟨its, r, pl, _⟩ := I.tuple hq
    exact call_set_tupI ns (I.ok.hd hc) pl (by simpa using r.ints) hb fun h' tk c R _ k => fin h' tk c R k
theorem cr_lenSet : CallR X (.builtin "len") (fun vs H Q => ∃ (a : Addr) (S : Int → Bool) (n : Nat), vs = [.ref a] ∧ H a = some (SetO X.w a S n) ∧ n < 4096 ∧ Q (.int n) H) := by
  intro pins s σ H vs us Q I ru h
  obtain ⟨a, S, n, rfl, ha, hn, q⟩ := h
  have R := setO_get I ha
  rw [Vals.ref1 ru]
  obtain ⟨o, es, ep, t, ho, hex, hd, _, _, _, _, hf, e, _⟩ := R
  subst e
  exact call_len_set ho hex hd hf (by omega) ⟨.int _, H, I.tok _, ⟨_, rfl⟩, q⟩
/-- what the outer call and the inner one are to do -/
def Nest (X : Cx) (o : Op) (r1 r2 : List V → Hp → VK → Prop) : Prop := ∀ xs H Q, rZs X.K (opW o) xs H Q → r1 xs H fun v H1 => r2 [v] H1 Q
theorem nest_sset (k : Bool) : Nest X (.sset k) (rSetI X) (rSortedSet X.w) := by
  intro xs H Q ⟨F, M, ds, R, rd, h⟩
  rcases ds with _ | ⟨d, _ | ⟨y, r⟩⟩ <;> simp only [opW] at h
  obtain ⟨x, rfl, rv⟩ := one_of rd
  obtain ⟨a, ns, rfl, hp, h3, h4⟩ := intsS_ok R rv h
  have hl := ded_len ns
  refine ⟨a, ns, rfl, hp, by show ns.length + 1 < 4096; omega, fun p hpn => ⟨p, _, _, rfl, upd_same, by omega, fun ns' p2 hs hm hl2 hn2 => ?_⟩⟩
  obtain ⟨s, R2, _⟩ := R.frz hpn (SetO X.w p (fun j => decide (j ∈ ns)) (ded ns).length)
  have nd : ns'.Nodup := hs.imp fun h e => by omega
  have e : ns' = sset ns := by
    refine perm_sorted_eq ?_ (hs.imp fun h => by omega) (isort_ok (ded ns)).2
    refine (perm_of_same nd (ded_nodup ns) fun x => ?_).trans (isort_ok (ded ns)).1.symm
    rw [hm x, ded_mem]
    exact decide_eq_true_iff
  subst e
  exact (newL_ok R2 (newL_mono h4 fun d M z => z.mono s) (DRs.ints _)).2 p2 hn2
theorem nest_lset : Nest X .lset (rSetI X) (fun vs H Q => ∃ (a : Addr) (S : Int → Bool) (n : Nat), vs = [.ref a] ∧ H a = some (SetO X.w a S n) ∧ n < 4096 ∧ Q (.int n) H) := by
  intro xs H Q ⟨F, M, ds, R, rd, h⟩
  rcases ds with _ | ⟨d, _ | ⟨y, r⟩⟩ <;> simp only [opW] at h
  obtain ⟨x, rfl, rv⟩ := one_of rd
  obtain ⟨a, ns, rfl, hp, h3, h4⟩ := intsS_ok R rv h
  have hl := ded_len ns
  refine ⟨a, ns, rfl, hp, by show ns.length + 1 < 4096; omega, fun p hpn => ⟨p, _, _, rfl, upd_same, by omega, ?_⟩⟩
  obtain ⟨s, R2, _⟩ := R.frz hpn (SetO X.w p (fun j => decide (j ∈ ns)) (ded ns).length)
  exact h4 _ _ _ s R2 (.int _)
/-- range(n) as a value -/
theorem cr_range1 : CallR X (.type "range") (fun vs H Q => ∃ n, vs = [V.int n] ∧ ∀ p, H p = none → Q (.ref p) (upd H p (.rng 0 n))) := by
  intro pins s σ H vs us Q I r h
  obtain ⟨n, rfl, q⟩ := h
  obtain ⟨u1, rfl, ri⟩ := vals1 r
  obtain ⟨t, rfl⟩ := ri
  refine call_range_1 ⟨.ref s.heap.objs.size, upd H s.heap.objs.size (.rng 0 n), I.laid (t' := s.toks + 1 + 1) (fun b o e => Heap.get?_push_of_some _ e) (Nat.le_refl _) ?_, rfl, q _ (I.hok.fresh (Nat.le_refl _))⟩
  exact ⟨s.toks, t, s.toks + 1, Heap.get?_push_size _ rfl⟩
theorem vals_get : ∀ {xs : List V} {us : List Value}, xs.length = us.length → (∀ (i : Nat) (x : V) (u : Value), xs[i]? = some x → us[i]? = some u → RelV x u) → Vals xs us
  | [], [], _, _ => .nil
  | [], _ :: _, h, _ => by simp at h
  | _ :: _, [], h, _ => by simp at h
  | x :: xs, u :: us, h, q => .cons (q 0 x u rfl rfl) (vals_get (by simpa using h) fun i y v h1 h2 => q (i + 1) y v (by simpa using h1) (by simpa using h2))
theorem vals_range {acc : Array Value} {n : Nat} (h : ItemsOf (fun (i : Nat) v => ∃ t, v = .int (0 + (i : Int) * 1) t) acc n) : Vals ((List.range n).map fun (k : Nat) => V.int (k : Int)) acc.toList := by
  obtain ⟨h1, h2⟩ := h
  refine vals_get (by simp [h1]) fun i x u hx hu => ?_
  rw [List.getElem?_map] at hx
  have hi : i < n := by
    have := (List.getElem?_eq_some_iff.mp hu).1
    rw [Array.length_toList, h1] at this
    exact this
  rw [List.getElem?_range hi] at hx
  cases hx
  obtain ⟨t, rfl⟩ := h2 i u (by simpa using hu)
  exact ⟨t, by rw [Int.mul_one, Int.zero_add]⟩
theorem cr_listR (hc : X.calm = true) : CallR X (.type "list") (fun vs H Q => ∃ (a : Addr) (n : Int), vs = [.ref a] ∧ H a = some (.rng 0 n) ∧ (0 ≤ n ∧ n < 2 ^ 20) ∧ ∀ p, H p = none → Q (.ref p) (upd H p (.lst ((List.range n.toNat).map fun (k : Nat) => V.int (k : Int))))) := by
  intro pins s σ H vs us Q I ru h
  obtain ⟨a, n, rfl, ha, hn, q⟩ := h
  rw [Vals.ref1 ru]
  obtain ⟨t, u, v, ho⟩ := I.hok _ _ ha
  have hsz : Builtin.Range.rangeSize 0 n 1 = n.toNat := by
    unfold Builtin.Range.rangeSize
    rw [if_pos (by decide)]
    split <;> omega
  have hsz' := hsz
  refine call_list_range (I.ok.hd hc) ho ?_ hsz (by omega) fun h' tk acc c k e hi => ?_
  · unfold Builtin.Range.small
    rw [hsz']
    simp [Builtin.Range.rangeFitsLong]
    omega
  · refine ⟨.ref _, _, I.laid (t' := tk) k (Nat.le_refl _) (show ObjOk X.prog X.w _ h' _ (.lst ((List.range n.toNat).map fun (k : Nat) => V.int (k : Int))) from ⟨?_, acc.toList, c, vals_range hi, by simpa using e⟩), rfl, q _ (I.hok.fresh (Nat.le_refl _))⟩
    have : sizeLine = 2 ^ 24 := rfl
    simp
    omega
theorem nest_lrng (k : Bool) : Nest X (.lrng k) (fun vs H Q => ∃ n, vs = [V.int n] ∧ ∀ p, H p = none → Q (.ref p) (upd H p (.rng 0 n)))
    (fun vs H Q => ∃ (a : Addr) (n : Int), vs = [.ref a] ∧ H a = some (.rng 0 n) ∧ (0 ≤ n ∧ n < 2 ^ 20) ∧ ∀ p, H p = none → Q (.ref p) (upd H p (.lst ((List.range n.toNat).map fun (k : Nat) => V.int (k : Int))))) := by
  intro xs H Q ⟨F, M, ds, R, rd, h⟩
  rcases ds with _ | ⟨d, _ | ⟨y, r⟩⟩
  · simp only [opW] at h
  · obtain ⟨x, rfl, rv⟩ := one_of rd
    cases d <;> simp only [opW] at h
    cases rv
    rename_i n
    refine ⟨n, rfl, fun p hpn => ⟨p, n, rfl, upd_same, h.1, fun p2 hn2 => ?_⟩⟩
    obtain ⟨s, R2, _⟩ := R.frz hpn (.rng 0 n)
    have dr : DRs X.K (upd F p (.rng 0 n)) (rangeD n.toNat) ((List.range n.toNat).map fun (k : Nat) => V.int (k : Int)) := by
      unfold rangeD
      generalize List.range n.toNat = l
      induction l with
      | nil => exact .nil
      | cons a l ih => exact .cons (.int _) ih
    exact (newL_ok R2 (newL_mono h.2 fun d M z => z.mono s) dr).2 p2 hn2
  · cases d <;> simp only [opW] at h
end Z

set_option Elab.async false
set_option linter.all false
set_option maxRecDepth 100000
/-! Z6: the checker (IR against the library's syntax). -/
namespace Z
open PySem PySem.Spec PyProof.Rows L2

/-- what the checker knows: the def's names by slot; the module's defs with how many parameters; constants; names that the module leaves to the built-ins -/
structure Cc where
  N : List Str
  fns : List (Str × Nat)
  gls : List Str
  free : List Str
def visB (sc : Scope) (x : Str) : Bool := match sc.names.lookup x with
  | some .local => true
  | some .cell => true
  | some .free => true
  | _ => false
def glB (sc : Scope) (x : Str) : Bool := match sc.names.lookup x with
  | some .globalImplicit => true
  | _ => false
def nameOk (x : Str) : Bool := !(x == ("__debug__" : Str)) && !(x == ("__classdict__" : Str)) && !(x == ("__name__" : Str))
/-- forms of expressions that are taken (no star, no slice alone, no set, no generator ..) -/
def okForm : Expr → Bool
  | .BoolOp .. => true
  | .BinOp .. => true
  | .UnaryOp .. => true
  | .IfExp .. => true
  | .Dict .. => true
  | .ListComp .. => true
  | .Compare .. => true
  | .Call .. => true
  | .JoinedStr .. => true
  | .Constant .. => true
  | .Attribute .. => true
  | .Subscript .. => true
  | .Name .. => true
  | .List .. => true
  | .Tuple .. => true
  | _ => false
def notComp : Expr → Bool
  | .ListComp .. => false
  | _ => true
/-- a receiver of a method: no call (super() is one) -/
def okRecv : Expr → Bool
  | .Name .. => true
  | .Subscript .. => true
  | .Attribute .. => true
  | .Constant .. => true
  | .BinOp .. => true
  | .List .. => true
  | _ => false
inductive Kind where
  | rev | nestB (x y : String) | nestT (x y : String) | bin (f : Operator) | cmp (f : CmpOp) | neg | idx | blt (x : String) | bty (x : String) | tup | lst
def Op.kind : Op → Kind
  | .add => .bin .Add
  | .addK => .bin .Add
  | .sub => .bin .Sub
  | .mul => .bin .Mult
  | .mulK => .bin .Mult
  | .rev _ => .rev
  | .fdiv => .bin .FloorDiv
  | .mod => .bin .Mod
  | .pow => .bin .Pow
  | .shl => .bin .LShift
  | .shr => .bin .RShift
  | .band => .bin .BitAnd
  | .neg => .neg
  | .eq => .cmp .Eq
  | .ne => .cmp .NotEq
  | .lt => .cmp .Lt
  | .le => .cmp .LtE
  | .gt => .cmp .Gt
  | .ge => .cmp .GtE
  | .isN => .cmp .Is
  | .notN => .cmp .IsNot
  | .isB => .cmp .Is
  | .notB => .cmp .IsNot
  | .inn => .cmp .In
  | .notIn => .cmp .NotIn
  | .idx => .idx
  | .len => .blt "len"
  | .abs => .blt "abs"
  | .max2 => .blt "max"
  | .min2 => .blt "min"
  | .int1 => .bty "int"
  | .tuple1 => .bty "tuple"
  | .list1 _ => .bty "list"
  | .sorted1 _ => .blt "sorted"
  | .sum1 => .blt "sum"
  | .max1 => .blt "max"
  | .min1 => .blt "min"
  | .all1 => .blt "all"
  | .isinst => .blt "isinstance"
  | .tup => .tup
  | .lst _ => .lst
  | .sset _ => .nestB "sorted" "set"
  | .lset => .nestB "len" "set"
  | .lrng _ => .nestT "list" "range"
def callee (c : Cc) (sc : Scope) (x : String) (y : Str) : Bool := decide ((x : Str) = y) && glB sc y && decide (y ∈ c.free) && nameOk y
/-- the operands that stand in an expression of this form -/
def parts (c : Cc) (sc : Scope) (k : Kind) (e : Expr) : Option (List Expr) := match k, e with
  | .bin f, .BinOp a g b _ => if f = g then some [a, b] else none
  | .cmp f, .Compare a [g] [b] _ => if f = g then some [a, b] else none
  | .neg, .UnaryOp .USub a _ => some [a]
  | .idx, .Subscript a b _ => some [a, b]
  | .blt x, .Call (.Name y _) (a :: as) [] _ => if callee c sc x y = true then some (a :: as) else none
  | .bty x, .Call (.Name y _) (a :: as) [] _ => if callee c sc x y = true then some (a :: as) else none
  | .nestB x y, .Call (.Name u _) [.Call (.Name v _) (a :: as) [] _] [] _ => if (callee c sc x u && callee c sc y v) = true then some (a :: as) else none
  | .nestT x y, .Call (.Name u _) [.Call (.Name v _) (a :: as) [] _] [] _ => if (callee c sc x u && callee c sc y v) = true then some (a :: as) else none
  | .rev, .Subscript a (.Slice none none (some (.UnaryOp .USub (.Constant (.int 1) _ _) _)) _) _ => some [a]
  | .tup, .Tuple es _ _ => some es
  | .lst, .List es _ => some es
  | _, _ => none
def Mt.nm : Mt → String
  | .append => "append"
  | .extend => "extend"
  | .insert => "insert"
  | .pop => "pop"
  | .popAt => "pop"
  | .clear => "clear"
def litB : Lit → Expr → Bool
  | .int i, .Constant (.int j) _ _ => decide (i = j)
  | .bl i, .Constant (.bool j) _ _ => decide (i = j)
  | .non, .Constant .none _ _ => true
  | .str i, .Constant (.str j) _ _ => decide (i = j)
  | _, _ => false
/-- a stored name; raw: the scope whose cells were made here -/
def storB (raw sc : Scope) (x : Str) : Bool := match raw.names.lookup x, sc.names.lookup x with
  | some .local, some .local => true
  | some .cell, some .cell => true
  | _, _ => false
mutual
def chkT (N : List Str) (raw sc : Scope) : Tg → Expr → Bool
  | .nm i, e => match e with
    | .Name x _ => decide (N[i]? = some x) && storB raw sc x
    | _ => false
  | .tp ts, e => match e with
    | .Tuple es _ _ => chkTs N raw sc ts es
    | _ => false
def chkTs (N : List Str) (raw sc : Scope) : List Tg → List Expr → Bool
  | [], [] => true
  | t :: ts, e :: es => chkT N raw sc t e && chkTs N raw sc ts es
  | _, _ => false
end
mutual
def tgNames : Expr → List Str
  | .Name x _ => [x]
  | .Tuple es _ _ => tgsNames es
  | _ => []
def tgsNames : List Expr → List Str
  | [] => []
  | e :: es => tgNames e ++ tgsNames es
end
mutual
def chkE (c : Cc) (sc : Scope) : Ex → Expr → Bool
  | .var i, e => match e with
    | .Name x _ => decide (c.N[i]? = some x) && visB sc x && nameOk x
    | _ => false
  | .lit l, e => litB l e
  | .glob x, e => match e with
    | .Name y _ => decide (x = y) && glB sc y && nameOk y && decide (y ∈ c.gls)
    | _ => false
  | .op o es, e => match parts c sc o.kind e with
    | some ps => chkEs c sc es ps
    | none => false
  | .mth m o es, e => match e with
    | .Call (.Attribute p y apos) ps [] cpos => decide ((m.nm : Str) = y) && (apos.endLine == cpos.line) && okRecv p && okForm p && chkE c sc o p && chkEs c sc es ps && decide (ps.length < 20)
    | _ => false
  | .bool k es, e => match e with
    | .BoolOp f ps _ => decide (f = if k = true then .And else .Or) && chkEs c sc es ps
    | _ => false
  | .not_ a, e => match e with
    | .UnaryOp .Not p _ => okForm p && chkE c sc a p
    | _ => false
  | .ite t a b, e => match e with
    | .IfExp p q r _ => chkX c sc t p && okForm q && chkE c sc a q && okForm r && chkE c sc b r
    | _ => false
  | .chain o p a b d, e => match e with
    | .Compare x [f, g] [y, z] _ => (match o.kind, p.kind with
      | .cmp f', .cmp g' => decide (f = f') && decide (g = g')
      | _, _ => false) && okForm x && chkE c sc a x && okForm y && chkE c sc b y && okForm z && chkE c sc d z
    | _ => false
  | .call f es, e => match e with
    | .Call (.Name y _) (p :: ps) [] _ => decide (f = y) && glB sc y && nameOk y && decide (c.fns.lookup y = some (p :: ps).length) && chkEs c sc es (p :: ps)
    | _ => false
  | .slice k a lo hi, e => match e with
    | .Subscript p (.Slice l h none _) _ => okForm p && chkE c sc a p && (match l with
        | some l => okForm l && chkE c sc lo l
        | none => isAbs lo) && (match h with
        | some h => okForm h && chkE c sc hi h
        | none => isAbs hi)
    | _ => false
  | .absent, _ => false
  | .comp k elt tg it ifs, e => match e with
    | .ListComp elt' [⟨tg', it', ifs', 0⟩] scope _ => chkI c sc it tg' it' && blkC c.N sc scope ((tgNames tg').zip (tgSlots tg)) && decide ((tgNames tg').length = (tgSlots tg).length) && chkT c.N scope (relS scope sc) tg tg' &&
        chkXs c (relS scope sc) ifs ifs' && okForm elt' && chkE c (relS scope sc) elt elt'
    | _ => false
  | .dict k es, e => match e with
    | .Dict ks vs _ => (chkD c sc es ks vs && decide (ks.length ≤ 15))
    | _ => false
def chkEs (c : Cc) (sc : Scope) : Exs → List Expr → Bool
  | .nil, ps => match ps with
    | [] => true
    | _ => false
  | .cons e es, ps => match ps with
    | p :: ps => okForm p && chkE c sc e p && chkEs c sc es ps
    | [] => false
def chkD (c : Cc) (sc : Scope) : Exs → List (Option Expr) → List Expr → Bool
  | .nil, ks, vs => match ks, vs with
    | [], [] => true
    | _, _ => false
  | .cons _ .nil, _, _ => false
  | .cons k (.cons v r), ks, vs => match ks, vs with
    | some k' :: ks, v' :: vs => okForm k' && chkE c sc k k' && okForm v' && chkE c sc v v' && chkD c sc r ks vs
    | _, _ => false
/-- tests -/
def chkX (c : Cc) (sc : Scope) : Tx → Expr → Bool
  | .val a, e => (match e with
    | .Name .. => true
    | .Call .. => true
    | .Subscript .. => true
    | .Constant .. => true
    | .Attribute .. => true
    | _ => false) && chkE c sc a e
  | .cmp o a b, e => match e with
    | .Compare x [f] [y] _ => (match o.kind with
      | .cmp f' => decide (f = f')
      | _ => false) && okForm x && chkE c sc a x && okForm y && chkE c sc b y
    | _ => false
  | .chain o p a b d, e => match e with
    | .Compare x [f, g] [y, z] _ => (match o.kind, p.kind with
      | .cmp f', .cmp g' => decide (f = f') && decide (g = g')
      | _, _ => false) && okForm x && chkE c sc a x && okForm y && chkE c sc b y && okForm z && chkE c sc d z
    | _ => false
  | .not_ t, e => match e with
    | .UnaryOp .Not p _ => chkX c sc t p
    | _ => false
  | .bool k ts, e => match e with
    | .BoolOp f ps _ => decide (f = if k = true then .And else .Or) && chkXs c sc ts ps
    | _ => false
def chkXs (c : Cc) (sc : Scope) : Txs → List Expr → Bool
  | .nil, ps => match ps with
    | [] => true
    | _ => false
  | .cons e es, ps => match ps with
    | p :: ps => chkX c sc e p && chkXs c sc es ps
    | [] => false
/-- walks: the target, the iterable -/
def chkI (c : Cc) (sc : Scope) : It → Expr → Expr → Bool
  | .seq a, _, e => okForm e && chkE c sc a e
  | .rng1 a, _, e => match e with
    | .Call (.Name y _) [p] [] _ => callee c sc "range" y && okForm p && chkE c sc a p
    | _ => false
  | .rng2 a b, _, e => match e with
    | .Call (.Name y _) [p, q] [] _ => callee c sc "range" y && okForm p && chkE c sc a p && okForm q && chkE c sc b q
    | _ => false
  | .enum a, tg, e => match tg, e with
    | .Tuple .., .Call (.Name y _) [p] [] _ => callee c sc "enumerate" y && okForm p && chkE c sc a p
    | _, _ => false
  | .zip a b, tg, e => match tg, e with
    | .Tuple .., .Call (.Name y _) [p, q] [] _ => callee c sc "zip" y && okForm p && chkE c sc a p && okForm q && chkE c sc b q
    | _, _ => false
end
end Z

set_option Elab.async false
set_option linter.all false
set_option maxRecDepth 100000
/-! Z7: expressions: what the IR asks is enough. -/
namespace Z
open PySem PySem.Spec PyProof.Rows L2

/-- a call keeps what the call semantics ask -/
def spC (K : PySem.W.Frag) (C : CallSem) (f : Str) : Sp := fun vs H Q E => ∃ F M ds, Rel K F H M ∧ DRs K F ds vs ∧ C f ds M (Out K F Q) (OutX K F E)
structure ZOk (X : Cx) (C : CallSem) (G : Str → Option D) (c : Cc) : Prop where
  mono : CMono C
  N : X.N = c.N
  calm : X.calm = true
  nd : X.N.Nodup
  units : X.A.units + 65 < cLine
  fns : ∀ f m, c.fns.lookup f = some m → ∃ (fa : Addr) (fd : FuncData) (ps : List Str) (k : Nat), ps.length = m ∧ X.mg f = some (.ref fa) ∧ PySem.W.keepIn X.K (.ref fa) = true ∧ L2.Binds X.K fd ps [] ∧ Room k X.A ∧
    FnOk X.prog X.w X.K X.mg X.base (L2.CX X.prog X.w) k fa fd ps (spC X.K C f)
  free : ∀ x ∈ c.free, X.mg x = none
  gls : ∀ x ∈ c.gls, ∀ d, G x = some d → (∃ u v, X.mg x = some u ∧ L2.RelV v u ∧ ∀ F, DR X.K F d v) ∨ ∃ n, d = .ty n ∧ X.mg x = none ∧ bootBuiltins x = some (.type n)
abbrev Wp := Env → MM → PQ → XQ → Prop
def lE (K : PySem.W.Frag) (W : WX) (w : Wp) : TE := fun σ H Q => ∃ F M env, Rel K F H M ∧ EnvR K F env σ ∧ w env M (Out K F Q) (OutX K F fun cls d H => W cls d σ H)
def lA (K : PySem.W.Frag) (W : WX) (w : Env → MM → PL → XQ → Prop) : TA := fun σ H Q => ∃ F M env, Rel K F H M ∧ EnvR K F env σ ∧ w env M (OutL K F Q) (OutX K F fun cls d H => W cls d σ H)
def lT (K : PySem.W.Frag) (W : WX) (w : Env → MM → PB → XQ → Prop) : TT := fun σ H Q => ∃ F M env, Rel K F H M ∧ EnvR K F env σ ∧ w env M (OutB K F Q) (OutX K F fun cls d H => W cls d σ H)
def Mw (w : Wp) : Prop := ∀ {env : Env} {M : MM} {Q Q' : PQ} {E E' : XQ}, w env M Q E → (∀ d M, Q d M → Q' d M) → (∀ x M, E x M → E' x M) → w env M Q' E'
theorem OutX.mono {K : PySem.W.Frag} {F F' : Hp} {W : Value → Option Addr → Hp → Prop} {x : Xc} {M : MM} (h : OutX K F W x M) (s : Same F F') : OutX K F' W x M := fun F2 H' cls d s2 => h F2 H' cls d (s.trans s2)
theorem OutB.mono {K : PySem.W.Frag} {F F' : Hp} {Q : Bool → Hp → Prop} {b : Bool} {M : MM} (h : OutB K F Q b M) (s : Same F F') : OutB K F' Q b M := fun F2 H' s2 => h F2 H' (s.trans s2)
theorem OutL.mono {K : PySem.W.Frag} {F F' : Hp} {Q : List V → Hp → Prop} {b : List D} {M : MM} (h : OutL K F Q b M) (s : Same F F') : OutL K F' Q b M := fun F2 H' v s2 => h F2 H' v (s.trans s2)
theorem OutB.here {K : PySem.W.Frag} {F H : Hp} {M : MM} (R : Rel K F H M) {Q : Bool → Hp → Prop} {b : Bool} (h : OutB K F Q b M) : Q b H := h F H (Same.refl _) R
theorem _root_.L2.PE.imp {X : Cx} {e : Expr} {t t' : TE} (h : PE X e t) (i : ∀ σ H Q, t' σ H Q → t σ H Q) : PE X e t' := ⟨fun pins s σ H Q I q => h.run pins s σ H Q I (i _ _ _ q)⟩
theorem _root_.L2.PT.imp {X : Cx} {e : Expr} {t t' : TT} (h : PT X e t) (i : ∀ σ H Q, t' σ H Q → t σ H Q) : PT X e t' := ⟨fun pins s σ H Q I q => h.run pins s σ H Q I (i _ _ _ q)⟩
theorem _root_.L2.PW.imp {X : Cx} {e : Expr} {t t' : TT} (h : PW X e t) (i : ∀ σ H Q, t' σ H Q → t σ H Q) : PW X e t' := ⟨fun wh pins s σ H Q I q => h.run wh pins s σ H Q I (i _ _ _ q)⟩
theorem _root_.L2.PA.imp {X : Cx} {e : List Expr} {t t' : TA} (h : PA X e t) (i : ∀ σ H Q, t' σ H Q → t σ H Q) : PA X e t' := ⟨fun pos pins s σ H Q I q => h.run pos pins s σ H Q I (i _ _ _ q)⟩
/-! ### the syntax -/
theorem star_ok {e : Expr} (h : okForm e = true) (es : List Expr) (env : PySem.Env) : starEach (e :: es) env = (false, eval e env) :: starEach es env := by
  cases e <;> first | rfl | (simp [okForm] at h)
theorem star_any : ∀ {es : List Expr} (h : es.all okForm = true) (pos : Pos) (env : PySem.Env), (backTo pos (starEach es env)).any (·.1) = false
  | [], _, _, _ => rfl
  | e :: es, h, pos, env => by
    simp only [List.all_cons, Bool.and_eq_true] at h
    rw [star_ok h.1]
    exact star_any h.2 pos env
theorem star_all : ∀ {es : List Expr} (h : es.all okForm = true) (pos : Pos) (env : PySem.Env), (backTo pos (starEach es env)).all (fun x => !x.1) = true
  | [], _, _, _ => rfl
  | e :: es, h, pos, env => by
    simp only [List.all_cons, Bool.and_eq_true] at h
    rw [star_ok h.1]
    exact star_all h.2 pos env
theorem plain_ok {b : Expr} (h : okForm b = true) : PlainIx b := by
  intro o i
  cases b <;> first | rfl | (simp [okForm] at h)
theorem marks_ok {b : Expr} (h : okForm b = true) (op : CmpOp) : behindInMarks op b = false := by
  cases b <;> first | rfl | (simp [okForm] at h)
theorem folded_ok {b : Expr} (h : okForm b = true) (env : PySem.Env) (x : Value) : foldedSetIterable b env x = pure x := by
  cases b <;> first | rfl | (simp [okForm] at h)
theorem recv_ok {o : Expr} (h : okRecv o = true) (m : Str) (env : PySem.Env) (t : Sem Value) : attributeBase o m env t = t := by
  cases o <;> first | rfl | (simp [okRecv] at h)
theorem nameOk_1 {x : Str} (h : nameOk x = true) : (x == ("__debug__" : Str)) = false ∧ (x == ("__classdict__" : Str)) = false ∧ x ≠ "__name__" := by
  unfold nameOk at h
  simp only [Bool.and_eq_true, Bool.not_eq_true'] at h
  exact ⟨h.1.1, h.1.2, fun e => by subst e; simp at h⟩
theorem glB_ok {X : Cx} {x : Str} (h : glB X.env.scope x = true) : Gl X x := by
  unfold glB at h
  split at h
  · rename_i e; exact e
  · cases h
theorem visB_ok {sc : Scope} {x : Str} (h : visB sc x = true) : Vis sc x := by
  unfold visB at h
  split at h
  · rename_i e; exact .inl e
  · rename_i e; exact .inr (.inl e)
  · rename_i e; exact .inr (.inr e)
  · cases h

/-! ### two operands -/
section
variable {K : PySem.W.Frag} {W : WX} {wa wb : Wp}
theorem two_lift (ma : Mw wa) (mb : Mw wb) {k : D → D → MM → PQ → Prop} (mk : ∀ {x y : D} {M : MM} {Q Q' : PQ}, k x y M Q → (∀ d M, Q d M → Q' d M) → k x y M Q') {σ : L2.St} {H : Hp} {Q : VK}
    (h : lE K W (fun env M Q E => wa env M (fun x M1 => wb env M1 (fun y M2 => k x y M2 Q) E) E) σ H Q) : tOp (rZ K k) (lE K W wa) (lE K W wb) σ H Q := by
  obtain ⟨F, M, env, R, N, h⟩ := h
  refine ⟨F, M, env, R, N, ma h (fun x M1 h1 F1 H1 v s1 R1 r1 => ?_) fun _ _ z => z⟩
  refine ⟨F1, M1, env, R1, N.mono s1, mb h1 (fun y M2 h2 F2 H2 u s2 R2 r2 => ?_) fun x M z => z.mono s1⟩
  exact ⟨F2, M2, x, y, R2, r1.mono s2, r2, mk h2 fun d M z => z.mono (s1.trans s2)⟩
/-- the same, the answer told apart: for tests -/
theorem two_liftB (ma : Mw wa) (mb : Mw wb) {k : D → D → MM → PQ → Prop} (mk : ∀ {x y : D} {M : MM} {Q Q' : PQ}, k x y M Q → (∀ d M, Q d M → Q' d M) → k x y M Q') {σ : L2.St} {H : Hp} {Q : Bool → Hp → Prop}
    (h : lT K W (fun env M Q E => wa env M (fun x M1 => wb env M1 (fun y M2 => k x y M2 fun z M3 => match z with
      | .bl b => Q b M3
      | _ => False) E) E) σ H Q) : tTest (tOp (rZ K k) (lE K W wa) (lE K W wb)) σ H Q := by
  obtain ⟨F, M, env, R, N, h⟩ := h
  refine ⟨F, M, env, R, N, ma h (fun x M1 h1 F1 H1 v s1 R1 r1 => ?_) fun _ _ z => z⟩
  refine ⟨F1, M1, env, R1, N.mono s1, mb h1 (fun y M2 h2 F2 H2 u s2 R2 r2 => ?_) fun x M z => z.mono s1⟩
  refine ⟨F2, M2, x, y, R2, r1.mono s2, r2, mk h2 fun d M3 z F3 H3 w' s3 R3 r3 => ?_⟩
  split at z
  · cases r3
    exact ⟨_, rfl, z F3 H3 ((s1.trans s2).trans s3) R3⟩
  · exact z.elim
theorem one_lift (ma : Mw wa) {k : D → MM → PQ → Prop} (mk : ∀ {x : D} {M : MM} {Q Q' : PQ}, k x M Q → (∀ d M, Q d M → Q' d M) → k x M Q') {σ : L2.St} {H : Hp} {Q : VK}
    (h : lE K W (fun env M Q E => wa env M (fun x M1 => k x M1 Q) E) σ H Q) : lE K W wa σ H (fun x H1 => rZ1 K k x H1 Q) := by
  obtain ⟨F, M, env, R, N, h⟩ := h
  refine ⟨F, M, env, R, N, ma h (fun x M1 h1 F1 H1 v s1 R1 r1 => ?_) fun _ _ z => z⟩
  exact ⟨F1, M1, x, R1, r1, mk h1 fun d M z => z.mono s1⟩
theorem args_lift {ws : Env → MM → PL → XQ → Prop} (ma : ∀ {env : Env} {M : MM} {Q Q' : PL} {E E' : XQ}, ws env M Q E → (∀ d M, Q d M → Q' d M) → (∀ x M, E x M → E' x M) → ws env M Q' E')
    {k : List D → MM → PQ → Prop} (mk : ∀ {x : List D} {M : MM} {Q Q' : PQ}, k x M Q → (∀ d M, Q d M → Q' d M) → k x M Q') {σ : L2.St} {H : Hp} {Q : VK}
    (h : lE K W (fun env M Q E => ws env M (fun ds M1 => k ds M1 Q) E) σ H Q) : lA K W ws σ H (fun xs H1 => rZs K k xs H1 Q) := by
  obtain ⟨F, M, env, R, N, h⟩ := h
  refine ⟨F, M, env, R, N, ma h (fun x M1 h1 F1 H1 v s1 R1 r1 => ?_) fun _ _ z => z⟩
  exact ⟨F1, M1, x, R1, r1, mk h1 fun d M z => z.mono s1⟩
end
/-! ### operators by their forms -/
section
variable {X : Cx}
theorem bin_ok (hu : X.A.units + 65 < cLine) : ∀ (o : Op) (f : Operator), o.kind = .bin f → OpR X (binaryOp f) (rZ X.K fun x y M Q => opW o [x, y] M Q)
  | .add, _, rfl => addZ
  | .addK, _, rfl => catZ
  | .sub, _, rfl => intZ0 op_sub
  | .mul, _, rfl => mulZ
  | .mulK, _, rfl => repZ
  | .fdiv, _, rfl => intZ op_fdiv
  | .mod, _, rfl => intZ op_mod
  | .pow, _, rfl => intZ op_pow
  | .shl, _, rfl => intZ op_shl
  | .shr, _, rfl => intZ op_shr
  | .band, _, rfl => intZ0 op_and
theorem isNZ : OpR X (compareOp .Is) (rZ X.K fun x y M Q => opW .isN [x, y] M Q) := by
  intro pins s σ H x y v u Q I rx ry ⟨F, M, a, b, R, ra, rb, h⟩
  cases b <;> simp only [opW] at h
  cases rb
  refine op_isN pins s σ H _ _ v u Q I rx ry ⟨rfl, ?_⟩
  have := Out.here R h (.bl _)
  cases ra <;> simpa using this
theorem notNZ : OpR X (compareOp .IsNot) (rZ X.K fun x y M Q => opW .notN [x, y] M Q) := by
  intro pins s σ H x y v u Q I rx ry ⟨F, M, a, b, R, ra, rb, h⟩
  cases b <;> simp only [opW] at h
  cases rb
  refine op_notN pins s σ H _ _ v u Q I rx ry ⟨rfl, ?_⟩
  have := Out.here R h (.bl _)
  cases ra <;> simpa using this
theorem isBZ : OpR X (compareOp .Is) (rZ X.K fun x y M Q => opW .isB [x, y] M Q) := by
  intro pins s σ H x y v u Q I rx ry ⟨F, M, a, b, R, ra, rb, h⟩
  cases a <;> cases b <;> simp only [opW] at h
  cases ra
  cases rb
  exact op_isBl pins s σ H _ _ v u Q I rx ry ⟨_, _, rfl, rfl, Out.here R h (.bl _)⟩
theorem notBZ : OpR X (compareOp .IsNot) (rZ X.K fun x y M Q => opW .notB [x, y] M Q) := by
  intro pins s σ H x y v u Q I rx ry ⟨F, M, a, b, R, ra, rb, h⟩
  cases a <;> cases b <;> simp only [opW] at h
  cases ra
  cases rb
  exact op_notBl pins s σ H _ _ v u Q I rx ry ⟨_, _, rfl, rfl, Out.here R h (.bl _)⟩
theorem cmp_ok (hu : X.A.units + 65 < cLine) : ∀ (o : Op) (f : CmpOp), o.kind = .cmp f → OpR X (compareOp f) (rZ X.K fun x y M Q => opW o [x, y] M Q)
  | .eq, _, rfl => eqZ (by omega)
  | .ne, _, rfl => neZ (by omega)
  | .lt, _, rfl => blZ0 op_lt
  | .le, _, rfl => blZ0 op_le
  | .gt, _, rfl => blZ0 op_gt
  | .ge, _, rfl => blZ0 op_ge
  | .isN, _, rfl => isNZ
  | .notN, _, rfl => notNZ
  | .isB, _, rfl => isBZ
  | .notB, _, rfl => notBZ
  | .inn, _, rfl => inZ hu
  | .notIn, _, rfl => notInZ hu
theorem negZ : UnR X (unaryOp .USub) (rZ1 X.K fun x M Q => opW .neg [x] M Q) := by
  intro pins s σ H x v Q I rx ⟨F, M, a, R, ra, h⟩
  cases a <;> simp only [opW] at h
  cases ra
  exact un_neg pins s σ H _ v Q I rx ⟨_, rfl, Out.here R h (.int _)⟩
theorem blt_ok (hu : X.A.units + 65 < cLine) (hc : X.calm = true) : ∀ (o : Op) (id : String), o.kind = .blt id → CallR X (.builtin id) (rZs X.K (opW o)) ∧ bootBuiltins (id : Str) = some (.builtin id)
  | .len, _, rfl => ⟨lenZ, by decide +kernel⟩
  | .abs, _, rfl => ⟨absZ, by decide +kernel⟩
  | .max2, _, rfl => ⟨max2Z hc, by decide +kernel⟩
  | .min2, _, rfl => ⟨min2Z hc, by decide +kernel⟩
  | .sorted1 k, _, rfl => ⟨sorted1Z k, by decide +kernel⟩
  | .sum1, _, rfl => ⟨sum1Z hc, by decide +kernel⟩
  | .max1, _, rfl => ⟨max1Z (by omega) hc, by decide +kernel⟩
  | .min1, _, rfl => ⟨min1Z (by omega) hc, by decide +kernel⟩
  | .all1, _, rfl => ⟨all1Z hc, by decide +kernel⟩
  | .isinst, _, rfl => ⟨isinstZ, by decide +kernel⟩
theorem bty_ok (hc : X.calm = true) : ∀ (o : Op) (id : String), o.kind = .bty id → CallR X (.type id) (rZs X.K (opW o)) ∧ bootBuiltins (id : Str) = some (.type id)
  | .int1, _, rfl => ⟨int1Z, by decide +kernel⟩
  | .tuple1, _, rfl => ⟨tuple1Z, by decide +kernel⟩
  | .list1 k, _, rfl => ⟨list1Z hc k, by decide +kernel⟩
theorem callee_ok {C : CallSem} {G : Str → Option D} {c : Cc} (ok : ZOk X C G c) {x : String} {y : Str} (h : callee c X.env.scope x y = true) : y = (x : Str) ∧ Gl X y ∧ X.mg y = none ∧ (y == ("__debug__" : Str)) = false ∧ y ≠ "__name__" := by
  unfold callee at h
  simp only [Bool.and_eq_true, decide_eq_true_eq] at h
  obtain ⟨⟨⟨h1, h2⟩, h3⟩, h4⟩ := h
  exact ⟨h1.symm, glB_ok h2, ok.free _ h3, (nameOk_1 h4).1, (nameOk_1 h4).2.2⟩
end
/-! ### lists of expressions -/
def PEL (X : Cx) (W : WX) (C : CallSem) (G : Str → Option D) : Exs → List Expr → Prop
  | .nil, ps => ps = []
  | .cons e es, ps => ∃ p r, ps = p :: r ∧ okForm p = true ∧ PE X p (lE X.K W (wE C G e)) ∧ PEL X W C G es r
theorem PEL.forms {X : Cx} {W : WX} {C : CallSem} {G : Str → Option D} : ∀ {es : Exs} {ps : List Expr}, PEL X W C G es ps → ps.all okForm = true
  | .nil, _, h => by
    have h : _ = _ := h
    subst h
    rfl
  | .cons e es, _, h => by
    obtain ⟨p, r, rfl, h1, _, h3⟩ := h
    simp [h1, PEL.forms h3]
theorem PEL.args {X : Cx} {W : WX} {C : CallSem} {G : Str → Option D} (mono : CMono C) : ∀ {es : Exs} {ps : List Expr}, PEL X W C G es ps → PA X ps (lA X.K W (wEs C G es))
  | .nil, _, h => by
    have h : _ = _ := h
    subst h
    refine pa_nil.imp fun σ H Q q => ?_
    obtain ⟨F, M, env, R, N, q⟩ := q
    simp only [wEs] at q
    exact q F H [] (Same.refl _) R .nil
  | .cons e es, _, h => by
    obtain ⟨p, r, rfl, h1, h2, h3⟩ := h
    refine (pa_cons h2 (PEL.args mono h3) (star_ok h1 _ _)).imp fun σ H Q q => ?_
    obtain ⟨F, M, env, R, N, q⟩ := q
    simp only [wEs] at q
    refine ⟨F, M, env, R, N, wE_mono mono e q (fun x M1 z F1 H1 v s1 R1 r1 => ?_) fun _ _ z => z⟩
    refine ⟨F1, M1, env, R1, N.mono s1, wEs_mono mono es z (fun xs M2 z F2 H2 vs s2 R2 r2 => ?_) fun x M z => z.mono s1⟩
    exact z F2 H2 (v :: vs) (s1.trans s2) R2 (.cons (r1.mono s2) r2)
theorem PEL.two {X : Cx} {W : WX} {C : CallSem} {G : Str → Option D} {es : Exs} {a b : Expr} (h : PEL X W C G es [a, b]) : ∃ e f, es = .cons e (.cons f .nil) ∧ okForm a = true ∧ okForm b = true ∧ PE X a (lE X.K W (wE C G e)) ∧ PE X b (lE X.K W (wE C G f)) := by
  cases es with
  | nil => cases h
  | cons e es =>
    obtain ⟨p, r, h0, h1, h2, h3⟩ := h
    cases h0
    cases es with
    | nil => cases h3
    | cons f es =>
      obtain ⟨p, r, h0, h4, h5, h6⟩ := h3
      cases h0
      cases es with
      | nil => exact ⟨e, f, rfl, h1, h4, h2, h5⟩
      | cons g es =>
        obtain ⟨_, _, h0, _⟩ := h6
        cases h0
theorem PEL.one {X : Cx} {W : WX} {C : CallSem} {G : Str → Option D} {es : Exs} {a : Expr} (h : PEL X W C G es [a]) : ∃ e, es = .cons e .nil ∧ okForm a = true ∧ PE X a (lE X.K W (wE C G e)) := by
  cases es with
  | nil => cases h
  | cons e es =>
    obtain ⟨p, r, h0, h1, h2, h3⟩ := h
    cases h0
    cases es with
    | nil => exact ⟨e, rfl, h1, h2⟩
    | cons f es =>
      obtain ⟨_, _, h0, _⟩ := h3
      cases h0
/-- and, or as a value -/
theorem PEL.bool {X : Cx} {W : WX} {C : CallSem} {G : Str → Option D} (mono : CMono C) (k : Bool) : ∀ {es : Exs} {ps : List Expr} {pos : Pos}, PEL X W C G es ps → ps ≠ [] → PE X (.BoolOp (if k = true then .And else .Or) ps pos) (lE X.K W (wBo C G k es))
  | .nil, _, _, h, hn => by
    have h : _ = _ := h
    exact absurd h hn
  | .cons e .nil, _, _, h, _ => by
    obtain ⟨p, r, rfl, h1, h2, h3⟩ := h
    have h3 : r = [] := h3
    subst h3
    refine (pe_one h2).imp fun σ H Q q => ?_
    obtain ⟨F, M, env, R, N, q⟩ := q
    simp only [wBo] at q
    exact ⟨F, M, env, R, N, q⟩
  | .cons e (.cons f es), _, pos, h, _ => by
    obtain ⟨p, r, rfl, h1, h2, h3⟩ := h
    obtain ⟨p2, r2, rfl, h4⟩ := id h3
    have ih := PEL.bool mono k (pos := pos) h3 (by simp)
    have key : ∀ {σ : L2.St} {H : Hp} {Q : VK}, lE X.K W (wBo C G k (.cons e (.cons f es))) σ H Q → lE X.K W (wE C G e) σ H fun x H1 => ∃ b, x = .bl b ∧ if b = k then lE X.K W (wBo C G k (.cons f es)) σ H1 Q else Q (.bl b) H1 := by
      intro σ H Q q
      obtain ⟨F, M, env, R, N, q⟩ := q
      simp only [wBo] at q
      refine ⟨F, M, env, R, N, wE_mono mono e q (fun x M1 z F1 H1 v s1 R1 r1 => ?_) fun _ _ z => z⟩
      split at z
      · rename_i b
        cases r1
        refine ⟨b, rfl, ?_⟩
        by_cases hb : b = k
        · have hb' : (b == k) = true := by simp [hb]
          rw [if_pos hb]
          simp only [hb'] at z
          exact ⟨F1, M1, env, R1, N.mono s1, wBo_mono mono k _ z (fun d M z => z.mono s1) fun x M z => z.mono s1⟩
        · have hb' : (b == k) = false := by simp [hb]
          rw [if_neg hb]
          simp only [hb'] at z
          exact z F1 H1 _ s1 R1 (.bl b)
      · exact z.elim
    cases k with
    | true =>
      refine (pe_and h2 ih).imp fun σ H Q q => ?_
      obtain ⟨F, M, env, R, N, q⟩ := key q
      refine ⟨F, M, env, R, N, wE_mono mono e q (fun x M1 z F1 H1 v s1 R1 r1 => ?_) fun _ _ z => z⟩
      obtain ⟨b, e1, z⟩ := z F1 H1 v s1 R1 r1
      refine ⟨b, e1, ?_⟩
      cases b with
      | true => simpa using z
      | false => simpa using z
    | false =>
      refine (pe_or h2 ih).imp fun σ H Q q => ?_
      obtain ⟨F, M, env, R, N, q⟩ := key q
      refine ⟨F, M, env, R, N, wE_mono mono e q (fun x M1 z F1 H1 v s1 R1 r1 => ?_) fun _ _ z => z⟩
      obtain ⟨b, e1, z⟩ := z F1 H1 v s1 R1 r1
      refine ⟨b, e1, ?_⟩
      cases b with
      | true => simpa using z
      | false => simpa using z
/-- tests in a row -/
def PTL (X : Cx) (W : WX) (C : CallSem) (G : Str → Option D) : Txs → List Expr → Prop
  | .nil, ps => ps = []
  | .cons e es, ps => ∃ p r, ps = p :: r ∧ PT X p (lT X.K W (wT C G e)) ∧ PTL X W C G es r
theorem PTL.bool {X : Cx} {W : WX} {C : CallSem} {G : Str → Option D} (mono : CMono C) (k : Bool) : ∀ {es : Txs} {ps : List Expr} {pos : Pos}, PTL X W C G es ps → ps ≠ [] → PW X (.BoolOp (if k = true then .And else .Or) ps pos) (lT X.K W (wBt C G k es))
  | .nil, _, _, h, hn => by
    have h : _ = _ := h
    exact absurd h hn
  | .cons e .nil, _, _, h, _ => by
    obtain ⟨p, r, rfl, h2, h3⟩ := h
    have h3 : r = [] := h3
    subst h3
    have key : ∀ σ H Q, lT X.K W (wBt C G k (.cons e .nil)) σ H Q → lT X.K W (wT C G e) σ H Q := fun σ H Q q => by
      obtain ⟨F, M, env, R, N, q⟩ := q
      simp only [wBt] at q
      exact ⟨F, M, env, R, N, q⟩
    cases k with
    | true => exact (pw_and1 h2).imp key
    | false => exact (pw_or1 h2).imp key
  | .cons e (.cons f es), _, pos, h, _ => by
    obtain ⟨p, r, rfl, h2, h3⟩ := h
    obtain ⟨p2, r2, rfl, h4⟩ := id h3
    have ih := PTL.bool mono k (pos := pos) h3 (by simp)
    have key : ∀ {σ : L2.St} {H : Hp} {Q : Bool → Hp → Prop}, lT X.K W (wBt C G k (.cons e (.cons f es))) σ H Q → lT X.K W (wT C G e) σ H fun b H1 => if b = k then lT X.K W (wBt C G k (.cons f es)) σ H1 Q else Q b H1 := by
      intro σ H Q q
      obtain ⟨F, M, env, R, N, q⟩ := q
      simp only [wBt] at q
      refine ⟨F, M, env, R, N, wT_mono mono e q (fun b M1 z F1 H1 s1 R1 => ?_) fun _ _ z => z⟩
      show if b = k then _ else _
      by_cases hb : b = k
      · have hb' : (b == k) = true := by simp [hb]
        rw [if_pos hb]
        simp only [hb'] at z
        exact ⟨F1, M1, env, R1, N.mono s1, wBt_mono mono k _ z (fun d M z => z.mono s1) fun x M z => z.mono s1⟩
      · have hb' : (b == k) = false := by simp [hb]
        rw [if_neg hb]
        simp only [hb'] at z
        exact z F1 H1 s1 R1
    cases k with
    | true =>
      refine (pw_and h2 ih).imp fun σ H Q q => ?_
      obtain ⟨F, M, env, R, N, q⟩ := key q
      refine ⟨F, M, env, R, N, wT_mono mono e q (fun b M1 z F1 H1 s1 R1 => ?_) fun _ _ z => z⟩
      have z := z F1 H1 s1 R1
      cases b with
      | true => simpa using z
      | false => simpa using z
    | false =>
      refine (pw_or h2 ih).imp fun σ H Q q => ?_
      obtain ⟨F, M, env, R, N, q⟩ := key q
      refine ⟨F, M, env, R, N, wT_mono mono e q (fun b M1 z F1 H1 s1 R1 => ?_) fun _ _ z => z⟩
      have z := z F1 H1 s1 R1
      cases b with
      | true => simpa using z
      | false => simpa using z
end Z

set_option Elab.async false
set_option linter.all false
set_option maxRecDepth 100000
/-! Z8: targets, walks, operations of the IR. -/
namespace Z
open PySem PySem.Spec PyProof.Rows L2
/-! ### targets -/
theorem PG.or {X : Cx} {e : Expr} {t u : TG} (h : PG X e t) (h' : PG X e u) : PG X e (fun v σ H Q => t v σ H Q ∨ u v σ H Q) := ⟨fun pins s σ H v w Q I r q => by
  rcases q with q | q
  · exact h.run pins s σ H v w Q I r q
  · exact h'.run pins s σ H v w Q I r q⟩
theorem _root_.L2.PG.imp {X : Cx} {e : Expr} {t u : TG} (h : PG X e t) (i : ∀ v σ H Q, u v σ H Q → t v σ H Q) : PG X e u := ⟨fun pins s σ H v w Q I r q => h.run pins s σ H v w Q I r (i _ _ _ _ q)⟩
theorem _root_.L2.PGs.imp {X : Cx} {e : List Expr} {t u : TGs} (h : PGs X e t) (i : ∀ v σ H Q, u v σ H Q → t v σ H Q) : PGs X e u := ⟨fun pins s σ H v w Q I r q => h.run pins s σ H v w Q I r (i _ _ _ _ q)⟩
/-- the slots behind a store: those outside stay -/
def Off (vs : List Nat) (σ σ' : L2.St) : Prop := σ'.length = σ.length ∧ ∀ j, j ∉ vs → σ'[j]? = σ[j]?
theorem Off.refl (vs : List Nat) (σ : L2.St) : Off vs σ σ := ⟨rfl, fun _ _ => rfl⟩
theorem Off.trans {vs : List Nat} {σ σ1 σ2 : L2.St} (a : Off vs σ σ1) (b : Off vs σ1 σ2) : Off vs σ σ2 := ⟨b.1.trans a.1, fun j h => (b.2 j h).trans (a.2 j h)⟩
theorem Off.more {vs ws : List Nat} {σ σ1 : L2.St} (a : Off vs σ σ1) (h : ∀ j ∈ vs, j ∈ ws) : Off ws σ σ1 := ⟨a.1, fun j hj => a.2 j fun z => hj (h j z)⟩
theorem wipe_get : ∀ (vs : List Nat) (σ : L2.St) (j : Nat), (wipe σ vs)[j]? = if j ∈ vs then σ[j]?.map (fun _ => none) else σ[j]?
  | [], σ, j => by simp [wipe]
  | v :: vs, σ, j => by
    unfold wipe
    rw [List.getElem?_set]
    have ih := wipe_get vs σ j
    by_cases hv : v = j
    · subst hv
      simp only [if_true, List.mem_cons, true_or, wipe_length]
      by_cases hl : v < σ.length
      · simp [hl]
      · simp [hl]
    · rw [if_neg hv, ih]
      have hv' : ¬ j = v := fun e => hv e.symm
      simp [List.mem_cons, hv']
theorem wipe_off {vs : List Nat} {σ σ' : L2.St} (h : Off vs (wipe σ vs) σ') : wipe σ' vs = wipe σ vs := by
  apply List.ext_getElem?
  intro j
  rw [wipe_get, wipe_get]
  have hl : σ'.length = σ.length := h.1.trans (wipe_length _ _)
  split
  · rename_i hj
    rcases Nat.lt_or_ge j σ.length with h1 | h1
    · rw [List.getElem?_eq_getElem h1, List.getElem?_eq_getElem (by omega : j < σ'.length)]
      rfl
    · rw [List.getElem?_eq_none h1, List.getElem?_eq_none (by omega : σ'.length ≤ j)]
  · rename_i hj
    have := h.2 j hj
    rw [wipe_get, if_neg hj] at this
    exact this
/-- a target's reading -/
def gZ (K : PySem.W.Frag) (t : Tg) : TG := fun v σ H Q => ∃ F M env d, Rel K F H M ∧ EnvR K F env σ ∧ DR K F d v ∧ bindT t d env M fun env' => ∀ σ', EnvR K F env' σ' → Off (tgSlots t) σ σ' → Q σ' H
def gZs (K : PySem.W.Frag) (t : List Tg) : TGs := fun v σ H Q => ∃ F M env d, Rel K F H M ∧ EnvR K F env σ ∧ DRs K F d v ∧ bindTs t d env M fun env' => ∀ σ', EnvR K F env' σ' → Off (tgsSlots t) σ σ' → Q σ' H
theorem assignEach_len : ∀ (es : List Expr) (env : PySem.Env), (assignEach es env).length = es.length
  | [], _ => rfl
  | e :: es, env => by
    have ih := assignEach_len es env
    cases e <;> simp [assignEach, ih]
theorem chkT_form {N : List Str} {raw sc : Scope} {t : Tg} {e : Expr} (h : chkT N raw sc t e = true) : (∃ x p, e = .Name x p) ∨ ∃ es k p, e = .Tuple es k p := by
  cases t with
  | nm i =>
    simp only [chkT] at h
    split at h
    · exact .inl ⟨_, _, rfl⟩
    · cases h
  | tp ts =>
    simp only [chkT] at h
    split at h
    · exact .inr ⟨_, _, _, rfl⟩
    · cases h
theorem chkTs_star {N : List Str} {raw sc : Scope} : ∀ {ts : List Tg} {es : List Expr} (h : chkTs N raw sc ts es = true) (env : PySem.Env), (assignEach es env).findIdx? (·.1) = none
  | [], [], _, _ => rfl
  | [], _ :: _, h, _ => by simp [chkTs] at h
  | _ :: _, [], h, _ => by simp [chkTs] at h
  | t :: ts, e :: es, h, env => by
    simp only [chkTs, Bool.and_eq_true] at h
    have ih := chkTs_star h.2 env
    rcases chkT_form h.1 with ⟨x, p, rfl⟩ | ⟨l, k, p, rfl⟩
    · simp [assignEach, List.findIdx?_cons, ih]
    · simp [assignEach, List.findIdx?_cons, ih]
theorem chkTs_len {N : List Str} {raw sc : Scope} : ∀ {ts : List Tg} {es : List Expr} (h : chkTs N raw sc ts es = true), ts.length = es.length
  | [], [], _ => rfl
  | [], _ :: _, h => by simp [chkTs] at h
  | _ :: _, [], h => by simp [chkTs] at h
  | t :: ts, e :: es, h => by
    simp only [chkTs, Bool.and_eq_true] at h
    simp [chkTs_len h.2]
theorem bindTs_len {M : MM} {k : Env → Prop} : ∀ {ts : List Tg} {ds : List D} {env : Env}, bindTs ts ds env M k → ts.length = ds.length
  | [], [], _, _ => rfl
  | [], _ :: _, _, h => by simp only [bindTs] at h
  | _ :: _, [], _, h => by simp only [bindTs] at h
  | t :: ts, d :: ds, env, h => by
    simp only [bindTs] at h
    -- some environment comes behind t
    have aux : ∀ (t : Tg) (d : D) (env : Env) (q : Prop), bindT t d env M (fun _ => q) → q := by
      intro t
      exact (fun t => (Tg.rec (motive_1 := fun t => ∀ (d : D) (env : Env) (q : Prop), bindT t d env M (fun _ => q) → q) (motive_2 := fun ts => ∀ (ds : List D) (env : Env) (q : Prop), bindTs ts ds env M (fun _ => q) → q)
        (fun i d env q h => by simpa only [bindT] using h)
        (fun ts ih d env q h => by
          simp only [bindT] at h
          split at h
          · exact ih _ _ _ h
          · exact h.elim)
        (fun ds env q h => by
          cases ds with
          | nil => simpa only [bindTs] using h
          | cons _ _ => simp only [bindTs] at h)
        (fun t ts h1 h2 ds env q h => by
          cases ds with
          | nil => simp only [bindTs] at h
          | cons d ds =>
            simp only [bindTs] at h
            exact h1 d env q (bindT_mono t h fun e z => h2 ds e q z)) t)) t
    have := aux t d env _ (bindT_mono t h fun e z => bindTs_len z)
    simp [this]
section
variable {X : Cx} (nd : X.N.Nodup) (hc : X.calm = true) {raw : Scope} (hf : ∀ x, raw.names.lookup x = some .cell → X.fn x = true)
include nd hc hf
mutual
theorem soundT : ∀ (t : Tg) (e : Expr), chkT X.N raw X.env.scope t e = true → PG X e (gZ X.K t)
  | .nm i, e, h => by
    simp only [chkT] at h
    split at h
    · rename_i x p
      simp only [Bool.and_eq_true, decide_eq_true_eq] at h
      obtain ⟨h1, h2⟩ := h
      have hx : Loc X.env.scope x ∧ (X.fn x = true ∨ X.env.scope.names.lookup x = some .local) := by
        unfold storB at h2
        split at h2
        · rename_i _ e2; exact ⟨.inl e2, .inr e2⟩
        · rename_i e1 e2; exact ⟨.inr e2, .inl (hf x e1)⟩
        · cases h2
      refine (pg_name nd h1 hx.1 hx.2).imp fun v σ H Q q => ?_
      obtain ⟨F, M, env, d, R, N, r, q⟩ := q
      simp only [bindT] at q
      refine q _ (N.set r i) ⟨by simp, fun j hj => ?_⟩
      have hj' : ¬ i = j := fun e => hj (by simp [tgSlots, e])
      rw [List.getElem?_set_ne hj']
    · cases h
  | .tp ts, e, h => by
    simp only [chkT] at h
    split at h
    · rename_i es k p
      have hs := soundTs ts es h
      have hn : (assignEach es X.env).length = es.length := assignEach_len es X.env
      have hst := chkTs_star h X.env
      refine (PG.or (pg_tup hc hs hn hst) (pg_lst hc hs hn hst)).imp fun v σ H Q q => ?_
      obtain ⟨F, M, env, d, R, N, r, q⟩ := q
      simp only [bindT] at q
      split at q
      · rename_i l el
        obtain ⟨a, vs, rfl, hp, rs⟩ := R.seqOf_of r el
        have hl : vs.length = es.length := by rw [← rs.length, ← bindTs_len q, chkTs_len h]
        have fin : gZs X.K ts vs σ H Q := ⟨F, M, env, l, R, N, rs, bindTs_mono ts q fun env' z σ' h1 h2 => z σ' h1 (h2.more fun j hj => by simpa only [tgSlots] using hj)⟩
        rcases hp with hp | hp
        · exact .inr ⟨a, vs, rfl, hp, hl, fin⟩
        · exact .inl ⟨a, vs, rfl, hp, hl, fin⟩
      · exact q.elim
    · cases h
theorem soundTs : ∀ (t : List Tg) (e : List Expr), chkTs X.N raw X.env.scope t e = true → PGs X e (gZs X.K t)
  | [], [], _ => pgs_nil.imp fun v σ H Q q => by
    obtain ⟨F, M, env, d, R, N, r, q⟩ := q
    cases d with
    | nil =>
      cases r
      simp only [bindTs] at q
      exact ⟨rfl, q σ N (Off.refl _ _)⟩
    | cons _ _ => simp only [bindTs] at q
  | [], _ :: _, h => by simp [chkTs] at h
  | _ :: _, [], h => by simp [chkTs] at h
  | t :: ts, e :: es, h => by
    simp only [chkTs, Bool.and_eq_true] at h
    have hs : (assignEach (e :: es) X.env).map (·.2) = assign e X.env :: (assignEach es X.env).map (·.2) := by
      rcases chkT_form h.1 with ⟨x, p, rfl⟩ | ⟨l, k, p, rfl⟩ <;> rfl
    refine (pgs_cons (soundT t e h.1) (soundTs ts es h.2) hs).imp fun v σ H Q q => ?_
    obtain ⟨F, M, env, d, R, N, r, q⟩ := q
    cases d with
    | nil => simp only [bindTs] at q
    | cons d ds =>
      cases r with
      | cons r rs =>
        simp only [bindTs] at q
        refine ⟨_, _, rfl, F, M, env, d, R, N, r, bindT_mono t q fun env1 z σ1 N1 o1 => ?_⟩
        refine ⟨F, M, env1, ds, R, N1, rs, bindTs_mono ts z fun env2 z σ2 N2 o2 => z σ2 N2 ?_⟩
        simp only [tgsSlots]
        exact (o1.more fun j hj => List.mem_append_left _ hj).trans (o2.more fun j hj => List.mem_append_right _ hj)
end
end
end Z

set_option Elab.async false
set_option linter.all false
set_option maxRecDepth 100000
/-! Z9: walks, comprehensions, the operations of the IR given their parts. -/
namespace Z
open PySem PySem.Spec PyProof.Rows L2
/-- an iterator that gives the items of l, while g stands -/
structure Wk (K : PySem.W.Frag) (F0 : Hp) (l : List D) (g : MM → Prop) (J : L2.It) : Prop where
  stop : ∀ F H M, Same F0 F → Rel K F H M → g M → J.stop l.length H
  go : ∀ F H M i, i < l.length → Same F0 F → Rel K F H M → g M → J.go i H
  yld : ∀ F H M i d, l[i]? = some d → Same F0 F → Rel K F H M → g M → ∀ x H', J.yld i H x H' → ∃ F', Same F F' ∧ Rel K F' H' M ∧ DR K F' d x
def lI (K : PySem.W.Frag) (W : WX) (w : Env → MM → (List D → (MM → Prop) → MM → Prop) → XQ → Prop) : TI := fun σ H R => ∃ F M env, Rel K F H M ∧ EnvR K F env σ ∧
  w env M (fun l g M1 => ∀ F' H' J, Same F F' → Rel K F' H' M1 → Wk K F' l g J → R J H') (OutX K F fun cls d H => W cls d σ H)
section
variable {K : PySem.W.Frag} {F0 F H : Hp} {M M0 : MM}
theorem lst_stay {H0 : Hp} (R0 : Rel K F0 H0 M0) {d : D} {v : V} {l : List D} (r : DR K F0 d v) (h : lstOf M0 d = some l) : ∃ a, v = .ref a ∧ (∃ vs, SqL K H0 a vs) ∧ ∀ F H M, Same F0 F → Rel K F H M → guard d l M → ∃ vs, SqL K H a vs ∧ DRs K F l vs := by
  cases r with
  | @lst a l' vs e q =>
    simp only [lstOf, Option.some.injEq] at h
    subst h
    exact ⟨a, rfl, ⟨vs, SqL.of (R0.sub _ _ e)⟩, fun F H M s R _ => ⟨vs, SqL.of (R.sub _ _ (s _ _ e)), q.mono s⟩⟩
  | @scr a l' e =>
    simp only [lstOf, Option.some.injEq] at h
    subst h
    exact ⟨a, rfl, ⟨_, R0.sub.seq e⟩, fun F H M s R _ => ⟨_, R.sub.seq (s.seq e), DRs.ints _⟩⟩
  | cell a =>
    simp only [lstOf] at h
    split at h
    · rename_i l' e
      cases h
      obtain ⟨vs, e1, _, _⟩ := R0.lst_of e
      refine ⟨a, rfl, ⟨vs, SqL.of e1⟩, fun F H M s R g => ?_⟩
      obtain ⟨vs, e1, e2, _⟩ := R.lst_of g
      exact ⟨vs, SqL.of e1, e2⟩
    · cases h
  | _ => simp [lstOf] at h
theorem wk_list {d : D} {l : List D} {a : Addr} (h : ∀ F H M, Same F0 F → Rel K F H M → guard d l M → ∃ vs, SqL K H a vs ∧ DRs K F l vs) : Wk K F0 l (guard d l) (Itl K a) where
  stop := fun F H M s R g => by
    obtain ⟨vs, h1, h2⟩ := h F H M s R g
    exact ⟨vs, h1, by rw [h2.length]; exact Nat.le_refl _⟩
  go := fun F H M i hi s R g => by
    obtain ⟨vs, h1, h2⟩ := h F H M s R g
    rw [h2.length] at hi
    exact ⟨vs, vs[i], h1, by simp [hi]⟩
  yld := fun F H M i d e s R g x H' y => by
    obtain ⟨vs, h1, h2⟩ := h F H M s R g
    obtain ⟨e1, y⟩ := y
    subst e1
    obtain ⟨v, h3, h4⟩ := h2.get e
    have := y vs h1
    rw [h3] at this
    cases this
    exact ⟨F, Same.refl _, R, h4⟩
theorem wk_tup {g : MM → Prop} {l : List D} {a : Addr} {vs : List V} (e : F0 a = some (.tup vs)) (q : DRs K F0 l vs) : Wk K F0 l g (Itt K a) where
  stop := fun F H M s R _ => ⟨vs, SqT.of (R.sub _ _ (s _ _ e)), by rw [q.length]; exact Nat.le_refl _⟩
  go := fun F H M i hi s R _ => by
    rw [q.length] at hi
    exact ⟨vs, vs[i], SqT.of (R.sub _ _ (s _ _ e)), by simp [hi]⟩
  yld := fun F H M i d ei s R _ x H' y => by
    obtain ⟨e1, y⟩ := y
    subst e1
    obtain ⟨v, h3, h4⟩ := q.get ei
    have := y vs (SqT.of (R.sub _ _ (s _ _ e)))
    rw [h3] at this
    cases this
    exact ⟨F, Same.refl _, R, h4.mono s⟩
theorem range_get {lo : Int} {n i : Nat} {d : D} (h : (rangeL lo n)[i]? = some d) : i < n ∧ d = .int (lo + i) := by
  unfold rangeL at h
  rw [List.getElem?_map] at h
  rcases Nat.lt_or_ge i n with h1 | h1
  · rw [List.getElem?_range h1] at h
    simp only [Option.map_some, Option.some.injEq] at h
    exact ⟨h1, h.symm⟩
  · rw [List.getElem?_eq_none (by simpa using h1)] at h
    cases h
theorem range_len {lo : Int} {n : Nat} : (rangeL lo n).length = n := by simp [rangeL]
theorem wk_range {g : MM → Prop} {lo : Int} {n : Nat} : Wk K F0 (rangeL lo n) g (Itr lo n) where
  stop := fun F H M s R _ => by rw [range_len]; exact Nat.le_refl _
  go := fun F H M i hi s R _ => by rw [range_len] at hi; exact hi
  yld := fun F H M i d e s R _ x H' y => by
    obtain ⟨e1, y⟩ := y
    subst e1
    obtain ⟨_, rfl⟩ := range_get e
    rw [y]
    exact ⟨F, Same.refl _, R, .int _⟩
theorem wk_str {g : MM → Prop} {z : Str} : Wk K F0 (z.cps.toList.map fun c => D.str ⟨#[c]⟩) g (Its z) where
  stop := fun F H M s R _ => by simp [Its]
  go := fun F H M i hi s R _ => by simpa [Its] using hi
  yld := fun F H M i d e s R _ x H' y => by
    obtain ⟨e1, c, y1, y2⟩ := y
    subst e1
    rw [List.getElem?_map] at e
    have : z.cps.toList[i]? = some c := by simpa using y1
    rw [this] at e
    cases e
    rw [y2]
    exact ⟨F, Same.refl _, R, .str _⟩
theorem enum_get {l : List D} {i : Nat} {d : D} (h : (enumL l)[i]? = some d) : ∃ x, l[i]? = some x ∧ d = .tup [.int i, x] := by
  unfold enumL at h
  rw [List.getElem?_map, List.getElem?_zipIdx] at h
  cases e : l[i]? with
  | none => rw [e] at h; cases h
  | some x =>
    rw [e] at h
    simp only [Option.map_some, Option.some.injEq, Nat.zero_add] at h
    exact ⟨x, rfl, h.symm⟩
theorem enum_len {l : List D} : (enumL l).length = l.length := by simp [enumL]
theorem pair_new (R : Rel K F H M) {x y : D} {v w : V} {T : Addr} (hT : H T = none) (rx : DR K F x v) (ry : DR K F y w) : ∃ F', Same F F' ∧ Rel K F' (upd H T (.tup [v, w])) M ∧ DR K F' (.tup [x, y]) (.ref T) := by
  obtain ⟨s, R2, e⟩ := R.frz hT (.tup [v, w])
  exact ⟨_, s, R2, .tup e (.cons (rx.mono s) (.cons (ry.mono s) .nil))⟩
theorem wk_enum {d : D} {l : List D} {a : Addr} (h : ∀ F H M, Same F0 F → Rel K F H M → guard d l M → ∃ vs, SqL K H a vs ∧ DRs K F l vs) : Wk K F0 (enumL l) (guard d l) (Ite K a) where
  stop := fun F H M s R g => by
    obtain ⟨vs, h1, h2⟩ := h F H M s R g
    exact ⟨vs, h1, by rw [enum_len, h2.length]; exact Nat.le_refl _⟩
  go := fun F H M i hi s R g => by
    obtain ⟨vs, h1, h2⟩ := h F H M s R g
    rw [enum_len, h2.length] at hi
    exact ⟨vs, vs[i], h1, by simp [hi]⟩
  yld := fun F H M i d e s R g x H' y => by
    obtain ⟨vs, h1, h2⟩ := h F H M s R g
    obtain ⟨T, z, rfl, hT, rfl, y⟩ := y
    obtain ⟨x, ex, rfl⟩ := enum_get e
    obtain ⟨v, h3, h4⟩ := h2.get ex
    have := y vs h1
    rw [h3] at this
    cases this
    exact pair_new R hT (.int _) h4
theorem wk_enumT {g : MM → Prop} {l : List D} {a : Addr} {vs : List V} (e : F0 a = some (.tup vs)) (q : DRs K F0 l vs) : Wk K F0 (enumL l) g (IteT K a) where
  stop := fun F H M s R _ => ⟨vs, SqT.of (R.sub _ _ (s _ _ e)), by rw [enum_len, q.length]; exact Nat.le_refl _⟩
  go := fun F H M i hi s R _ => by
    rw [enum_len, q.length] at hi
    exact ⟨vs, vs[i], SqT.of (R.sub _ _ (s _ _ e)), by simp [hi]⟩
  yld := fun F H M i d ei s R _ x H' y => by
    obtain ⟨T, z, rfl, hT, rfl, y⟩ := y
    obtain ⟨x, ex, rfl⟩ := enum_get ei
    obtain ⟨v, h3, h4⟩ := q.get ex
    have := y vs (SqT.of (R.sub _ _ (s _ _ e)))
    rw [h3] at this
    cases this
    exact pair_new R hT (.int _) (h4.mono s)
theorem zip_get {l r : List D} {i : Nat} {d : D} (h : (zipL l r)[i]? = some d) : ∃ x y, l[i]? = some x ∧ r[i]? = some y ∧ d = .tup [x, y] := by
  unfold zipL at h
  rw [List.getElem?_map] at h
  cases e : (l.zip r)[i]? with
  | none => rw [e] at h; cases h
  | some p =>
    rw [e] at h
    simp only [Option.map_some, Option.some.injEq] at h
    rw [List.getElem?_zip_eq_some] at e
    exact ⟨p.1, p.2, e.1, e.2, h.symm⟩
theorem wk_zip {d e : D} {l r : List D} {a b : Addr} (h : ∀ F H M, Same F0 F → Rel K F H M → guard d l M → ∃ vs, SqL K H a vs ∧ DRs K F l vs)
    (h' : ∀ F H M, Same F0 F → Rel K F H M → guard e r M → ∃ vs, SqL K H b vs ∧ DRs K F r vs) : Wk K F0 (zipL l r) (fun M => guard d l M ∧ guard e r M) (Itz K a b) where
  stop := fun F H M s R g => by
    obtain ⟨vs, h1, h2⟩ := h F H M s R g.1
    obtain ⟨ws, h3, h4⟩ := h' F H M s R g.2
    refine ⟨vs, ws, h1, h3, ?_⟩
    have e1 := h2.length
    have e2 := h4.length
    simp only [zipL, List.length_map, List.length_zip]
    omega
  go := fun F H M i hi s R g => by
    obtain ⟨vs, h1, h2⟩ := h F H M s R g.1
    obtain ⟨ws, h3, h4⟩ := h' F H M s R g.2
    have e1 := h2.length
    have e2 := h4.length
    simp only [zipL, List.length_map, List.length_zip] at hi
    have hv : i < vs.length := by omega
    have hw : i < ws.length := by omega
    exact ⟨vs, ws, vs[i], ws[i], h1, h3, by simp [hv], by simp [hw]⟩
  yld := fun F H M i d e s R g x H' y => by
    obtain ⟨vs, h1, h2⟩ := h F H M s R g.1
    obtain ⟨ws, h3, h4⟩ := h' F H M s R g.2
    obtain ⟨T, z, w, rfl, hT, rfl, y1, y2⟩ := y
    obtain ⟨x, y, ex, ey, rfl⟩ := zip_get e
    obtain ⟨v, h5, h6⟩ := h2.get ex
    obtain ⟨u, h7, h8⟩ := h4.get ey
    have := y1 vs h1
    rw [h5] at this
    cases this
    have := y2 ws h3
    rw [h7] at this
    cases this
    exact pair_new R hT h6 h8
end
/-! ### an iterator comes -/
section
variable {X : Cx} {pins : List (Addr × Obj)} {σ : L2.St} {H : Hp} {s1 : Shared} {tg : Expr} {R : L2.It → Hp → Prop} {E : Value → Shared → Prop}
theorem come_list (I1 : L2.Inv X pins σ H s1) {a : Addr} {xs : List V} (hq : SqL X.K H a xs) (q : R (Itl X.K a) H) : wpAny (model X.prog X.w) X.A (pyIter (.ref a)) (PIE X pins σ tg R) E s1 := by
  obtain ⟨its, rv, p, hz⟩ := I1.list hq
  refine wpAny_pyIter_list p.isList ?_
  refine ⟨s1.heap.objs.size, [s1.heap.objs.size], _, _, H, rfl, I1.kept (t' := s1.toks) fun b o e => Heap.get?_push_of_some _ e, turn_list a _, ⟨_, Heap.get?_push_size _ rfl, rfl, rfl⟩, fun b hb => ?_, q⟩
  have e : b = s1.heap.objs.size := by simpa using hb
  subst e
  exact I1.fpOk (Nat.le_refl _) (I1.hok.fresh (Nat.le_refl _))
theorem come_tup (I1 : L2.Inv X pins σ H s1) {a : Addr} {xs : List V} (hq : SqT X.K H a xs) (q : R (Itt X.K a) H) : wpAny (model X.prog X.w) X.A (pyIter (.ref a)) (PIE X pins σ tg R) E s1 := by
  obtain ⟨its, rv, p, hz⟩ := I1.tuple hq
  refine wpAny_pyIter_tuple (show s1.heap.IsTuple a its.toArray from p) ?_
  refine ⟨s1.heap.objs.size, [s1.heap.objs.size], _, _, H, rfl, I1.kept (t' := s1.toks) fun b o e => Heap.get?_push_of_some _ e, turn_tuple a _, ⟨_, Heap.get?_push_size _ rfl, rfl, rfl⟩, fun b hb => ?_, q⟩
  have e : b = s1.heap.objs.size := by simpa using hb
  subst e
  exact I1.fpOk (Nat.le_refl _) (I1.hok.fresh (Nat.le_refl _))
theorem come_str (I1 : L2.Inv X pins σ H s1) {x : Str} {t : Tok} (q : R (Its x) H) : wpAny (model X.prog X.w) X.A (pyIter (.str x t)) (PIE X pins σ tg R) E s1 := by
  cases ha : x.cps.all (· < 128)
  · exact wpAny_pyIter_wide ha (pi_one (tk := s1.toks) I1 _ (turn_str _ x t "str_iterator" (.inr rfl)) ⟨_, Heap.get?_push_size _ rfl, rfl, rfl⟩ q)
  · exact wpAny_pyIter_ascii ha (pi_one (tk := s1.toks) I1 _ (turn_str _ x t "str_ascii_iterator" (.inl rfl)) ⟨_, Heap.get?_push_size _ rfl, rfl, rfl⟩ q)
end
theorem _root_.L2.PI.imp {X : Cx} {tg e : Expr} {t u : TI} (h : PI X tg e t) (i : ∀ σ H R, u σ H R → t σ H R) : PI X tg e u := ⟨fun pins s σ H R I q => h.run pins s σ H R I (i _ _ _ q)⟩
section
variable {X : Cx} {W : WX} {wa wb : Wp} {tg : Expr}
theorem it_seq {e : Expr} (ma : Mw wa) (he : PE X e (lE X.K W wa)) : PI X tg e (lI X.K W fun env M K E => wa env M (fun d M1 => match itOf M1 d with
    | some l => K l (guard d l) M1
    | none => False) E) := by
  refine ⟨fun pins s σ H R I h => ?_⟩
  obtain ⟨F, M, env, Re, N, h⟩ := h
  refine thn (he.run pins s σ H (fun x H1 => (∃ a xs, x = .ref a ∧ SqL X.K H1 a xs ∧ R (Itl X.K a) H1) ∨ (∃ a xs, x = .ref a ∧ SqT X.K H1 a xs ∧ R (Itt X.K a) H1) ∨ ∃ z, x = .str z ∧ R (Its z) H1) I
    ⟨F, M, env, Re, N, ma h (fun d M1 z F1 H1 v s1 R1 r1 => ?_) fun _ _ z => z⟩) fun v s1 ⟨x, H1, I1, r1, q1⟩ => ?_
  · split at z
    · rename_i l e
      cases d with
      | str x =>
        cases r1
        cases e
        exact .inr (.inr ⟨x, rfl, z F1 H1 _ s1 R1 wk_str⟩)
      | tup l' =>
        cases r1 with
        | @tup a _ vs ea q =>
          cases e
          exact .inr (.inl ⟨a, vs, rfl, SqT.of (R1.sub _ _ ea), z F1 H1 _ s1 R1 (wk_tup ea q)⟩)
      | _ =>
        obtain ⟨a, rfl, ⟨vs, hv⟩, h2⟩ := lst_stay R1 r1 (show lstOf M1 _ = some l from e)
        exact .inl ⟨a, vs, rfl, hv, z F1 H1 _ s1 R1 (wk_list h2)⟩
    · exact z.elim
  · rcases q1 with ⟨a, xs, rfl, hq, q⟩ | ⟨a, xs, rfl, hq, q⟩ | ⟨z, rfl, q⟩
    · cases r1
      exact come_list I1 hq q
    · cases r1
      exact come_tup I1 hq q
    · obtain ⟨t, rfl⟩ := r1
      exact come_str I1 q
theorem it_rng1 {e : Expr} {p pos : Pos} (ma : Mw wa) (hf : okForm e = true) (hg : Gl X "range") (hm : X.mg "range" = none) (he : PE X e (lE X.K W wa)) :
    PI X tg (.Call (.Name "range" p) [e] [] pos) (lI X.K W fun env M K E => wa env M (fun d M1 => match d with
    | .int n => -(2 ^ 62) ≤ n ∧ n < 2 ^ 62 ∧ K (rangeL 0 n.toNat) (fun _ => True) M1
    | _ => False) E) := by
  refine (pi_range1 hg hm (pa_cons he pa_nil (star_ok hf _ _)) (star_ok hf _ _)).imp fun σ H R h => ?_
  obtain ⟨F, M, env, Re, N, h⟩ := h
  refine ⟨F, M, env, Re, N, ma h (fun d M1 z F1 H1 v s1 R1 r1 => ?_) fun _ _ z => z⟩
  split at z
  · cases r1
    exact ⟨_, rfl, z.1, z.2.1, z.2.2 F1 H1 _ s1 R1 wk_range⟩
  · exact z.elim
theorem it_rng2 {a b : Expr} {p pos : Pos} (ma : Mw wa) (mb : Mw wb) (hf : okForm a = true) (hf2 : okForm b = true) (hg : Gl X "range") (hm : X.mg "range" = none) (ha : PE X a (lE X.K W wa)) (hb : PE X b (lE X.K W wb)) :
    PI X tg (.Call (.Name "range" p) [a, b] [] pos) (lI X.K W fun env M K E => wa env M (fun d M1 => wb env M1 (fun e M2 => i2 d e fun i j =>
    (-(2 ^ 62) ≤ i ∧ i < 2 ^ 62 ∧ -(2 ^ 62) ≤ j ∧ j < 2 ^ 62) ∧ K (rangeL i (j - i).toNat) (fun _ => True) M2) E) E) := by
  refine (pi_range2 hg hm (pa_cons ha (pa_cons hb pa_nil (star_ok hf2 _ _)) (star_ok hf _ _)) (by rw [star_ok hf, star_ok hf2] <;> rfl) (star_ok hf2 _ _)).imp fun σ H R h => ?_
  obtain ⟨F, M, env, Re, N, h⟩ := h
  refine ⟨F, M, env, Re, N, ma h (fun d M1 z F1 H1 v s1 R1 r1 => ?_) fun _ _ z => z⟩
  refine ⟨F1, M1, env, R1, N.mono s1, mb z (fun e M2 z F2 H2 u s2 R2 r2 => ?_) fun x M z => z.mono s1⟩
  unfold i2 at z
  split at z
  · cases r1
    cases r2
    exact ⟨_, _, rfl, z.1, z.2 F2 H2 _ (s1.trans s2) R2 wk_range⟩
  · exact z.elim
theorem it_enum {e : Expr} {p pos tp : Pos} {es : List Expr} {k : Nat} (ma : Mw wa) (hf : okForm e = true) (hg : Gl X "enumerate") (hm : X.mg "enumerate" = none) (he : PE X e (lE X.K W wa)) :
    PI X (.Tuple es k tp) (.Call (.Name "enumerate" p) [e] [] pos) (lI X.K W fun env M K E => wa env M (fun d M1 => match seqOf M1 d with
    | some l => K (enumL l) (guard d l) M1
    | none => False) E) := by
  refine (pi_enumS hg hm (pa_cons he pa_nil (star_ok hf _ _)) (star_ok hf _ _)).imp fun σ H R h => ?_
  obtain ⟨F, M, env, Re, N, h⟩ := h
  refine ⟨F, M, env, Re, N, ma h (fun d M1 z F1 H1 v s1 R1 r1 => ?_) fun _ _ z => z⟩
  split at z
  · rename_i l e
    cases d with
    | tup l' =>
      cases r1 with
      | @tup a _ vs ea q =>
        cases e
        exact .inr ⟨a, vs, rfl, SqT.of (R1.sub _ _ ea), z F1 H1 _ s1 R1 (wk_enumT ea q)⟩
    | _ =>
      obtain ⟨a, rfl, ⟨vs, hv⟩, h2⟩ := lst_stay R1 r1 (show lstOf M1 _ = some l from e)
      exact .inl ⟨a, vs, rfl, hv, z F1 H1 _ s1 R1 (wk_enum h2)⟩
  · exact z.elim
theorem it_zip {a b : Expr} {p pos tp : Pos} {es : List Expr} {k : Nat} (ma : Mw wa) (mb : Mw wb) (hf : okForm a = true) (hf2 : okForm b = true) (hg : Gl X "zip") (hm : X.mg "zip" = none) (ha : PE X a (lE X.K W wa)) (hb : PE X b (lE X.K W wb)) :
    PI X (.Tuple es k tp) (.Call (.Name "zip" p) [a, b] [] pos) (lI X.K W fun env M K E => wa env M (fun d M1 => wb env M1 (fun e M2 => match lstOf M2 d, lstOf M2 e with
    | some l, some r => K (zipL l r) (fun M => guard d l M ∧ guard e r M) M2
    | _, _ => False) E) E) := by
  refine (pi_zip hg hm (pa_cons ha (pa_cons hb pa_nil (star_ok hf2 _ _)) (star_ok hf _ _)) (star_ok hf _ _) (star_any (es := [b]) (by simp [hf2]) _ _)).imp fun σ H R h => ?_
  obtain ⟨F, M, env, Re, N, h⟩ := h
  refine ⟨F, M, env, Re, N, ma h (fun d M1 z F1 H1 v s1 R1 r1 => ?_) fun _ _ z => z⟩
  refine ⟨F1, M1, env, R1, N.mono s1, mb z (fun e M2 z F2 H2 u s2 R2 r2 => ?_) fun x M z => z.mono s1⟩
  split at z
  · rename_i l r e1 e2
    obtain ⟨a, rfl, ⟨vs, hv⟩, h2⟩ := lst_stay R2 (r1.mono s2) e1
    obtain ⟨b, rfl, ⟨ws, hw⟩, h3⟩ := lst_stay R2 r2 e2
    exact ⟨a, b, vs, ws, rfl, hv, hw, z F2 H2 _ (s1.trans s2) R2 (wk_zip h2 h3)⟩
  · exact z.elim
end
end Z

set_option Elab.async false
set_option linter.all false
set_option maxRecDepth 100000
/-! Z10: expressions: the theorem. -/
namespace Z
open PySem PySem.Spec PyProof.Rows L2
section
variable {X : Cx} {W : WX} {C : CallSem} {G : Str → Option D} {c : Cc}
theorem ZOk.Ew (ok : ZOk X C G c) (e : Ex) : Mw (wE C G e) := fun h q r => wE_mono ok.mono e h q r
theorem parts_bin {sc : Scope} {f : Operator} {e : Expr} {ps : List Expr} (h : parts c sc (.bin f) e = some ps) : ∃ a b pos, e = .BinOp a f b pos ∧ ps = [a, b] := by
  unfold parts at h
  split at h <;> first
    | (cases h; done)
    | contradiction
    | (rename_i heq
       cases heq
       split at h
       · rename_i hf
         cases h
         subst hf
         exact ⟨_, _, _, rfl, rfl⟩
       · cases h)
theorem parts_cmp {sc : Scope} {f : CmpOp} {e : Expr} {ps : List Expr} (h : parts c sc (.cmp f) e = some ps) : ∃ a b pos, e = .Compare a [f] [b] pos ∧ ps = [a, b] := by
  unfold parts at h
  split at h <;> first
    | (cases h; done)
    | contradiction
    | (rename_i heq
       cases heq
       split at h
       · rename_i hf
         cases h
         subst hf
         exact ⟨_, _, _, rfl, rfl⟩
       · cases h)
theorem parts_neg {sc : Scope} {e : Expr} {ps : List Expr} (h : parts c sc .neg e = some ps) : ∃ a pos, e = .UnaryOp .USub a pos ∧ ps = [a] := by
  unfold parts at h
  split at h <;> first
    | (cases h; done)
    | contradiction
    | (cases h; exact ⟨_, _, rfl, rfl⟩)
theorem parts_idx {sc : Scope} {e : Expr} {ps : List Expr} (h : parts c sc .idx e = some ps) : ∃ a b pos, e = .Subscript a b pos ∧ ps = [a, b] := by
  unfold parts at h
  split at h <;> first
    | (cases h; done)
    | contradiction
    | (cases h; exact ⟨_, _, _, rfl, rfl⟩)
theorem parts_tup {sc : Scope} {e : Expr} {ps : List Expr} (h : parts c sc .tup e = some ps) : ∃ k pos, e = .Tuple ps k pos := by
  unfold parts at h
  split at h <;> first
    | (cases h; done)
    | contradiction
    | (cases h; exact ⟨_, _, rfl⟩)
theorem parts_lst {sc : Scope} {e : Expr} {ps : List Expr} (h : parts c sc .lst e = some ps) : ∃ pos, e = .List ps pos := by
  unfold parts at h
  split at h <;> first
    | (cases h; done)
    | contradiction
    | (cases h; exact ⟨_, rfl⟩)
theorem parts_blt {sc : Scope} {x : String} {e : Expr} {ps : List Expr} (h : parts c sc (.blt x) e = some ps) : ∃ y p a as pos, e = .Call (.Name y p) (a :: as) [] pos ∧ ps = a :: as ∧ callee c sc x y = true := by
  unfold parts at h
  split at h <;> first
    | (cases h; done)
    | contradiction
    | (rename_i heq
       cases heq
       split at h
       · rename_i hf
         cases h
         exact ⟨_, _, _, _, _, rfl, rfl, hf⟩
       · cases h)
theorem parts_bty {sc : Scope} {x : String} {e : Expr} {ps : List Expr} (h : parts c sc (.bty x) e = some ps) : ∃ y p a as pos, e = .Call (.Name y p) (a :: as) [] pos ∧ ps = a :: as ∧ callee c sc x y = true := by
  unfold parts at h
  split at h <;> first
    | (cases h; done)
    | contradiction
    | (rename_i heq
       cases heq
       split at h
       · rename_i hf
         cases h
         exact ⟨_, _, _, _, _, rfl, rfl, hf⟩
       · cases h)
theorem parts_nestB {sc : Scope} {x y : String} {e : Expr} {ps : List Expr} (h : parts c sc (.nestB x y) e = some ps) : ∃ u v p q r pos a as, e = .Call (.Name u p) [.Call (.Name v q) (a :: as) [] r] [] pos ∧ ps = a :: as ∧ callee c sc x u = true ∧ callee c sc y v = true := by
  unfold parts at h
  split at h <;> first
    | (cases h; done)
    | contradiction
    | (rename_i heq
       cases heq
       split at h
       · rename_i hf
         cases h
         simp only [Bool.and_eq_true] at hf
         exact ⟨_, _, _, _, _, _, _, _, rfl, rfl, hf.1, hf.2⟩
       · cases h)
theorem parts_nestT {sc : Scope} {x y : String} {e : Expr} {ps : List Expr} (h : parts c sc (.nestT x y) e = some ps) : ∃ u v p q r pos a as, e = .Call (.Name u p) [.Call (.Name v q) (a :: as) [] r] [] pos ∧ ps = a :: as ∧ callee c sc x u = true ∧ callee c sc y v = true := by
  unfold parts at h
  split at h <;> first
    | (cases h; done)
    | contradiction
    | (rename_i heq
       cases heq
       split at h
       · rename_i hf
         cases h
         simp only [Bool.and_eq_true] at hf
         exact ⟨_, _, _, _, _, _, _, _, rfl, rfl, hf.1, hf.2⟩
       · cases h)
theorem parts_rev {sc : Scope} {e : Expr} {ps : List Expr} (h : parts c sc .rev e = some ps) : ∃ a k p1 p2 p3 pos, e = .Subscript a (.Slice none none (some (.UnaryOp .USub (.Constant (.int 1) k p1) p2)) p3) pos ∧ ps = [a] := by
  unfold parts at h
  split at h <;> first
    | (cases h; done)
    | contradiction
    | (rename_i heq
       cases heq
       cases h
       exact ⟨_, _, _, _, _, _, rfl, rfl⟩)
theorem drs_append {K : PySem.W.Frag} {F : Hp} : ∀ {l r : List D} {vs ws : List V}, DRs K F l vs → DRs K F r ws → DRs K F (l ++ r) (vs ++ ws)
  | [], _, _, _, .nil, h => h
  | _ :: _, _, _, _, .cons a b, h => .cons a (drs_append b h)
theorem drs_rev {K : PySem.W.Frag} {F : Hp} : ∀ {l : List D} {vs : List V}, DRs K F l vs → DRs K F l.reverse vs.reverse
  | [], _, .nil => .nil
  | _ :: _, _, .cons a b => by
    rw [List.reverse_cons, List.reverse_cons]
    exact drs_append (drs_rev b) (.cons a .nil)
theorem nestB_ok (hc : X.calm = true) : ∀ (o : Op) (x y : String), o.kind = .nestB x y → ∃ r1 r2, CallR X (.builtin x) r2 ∧ bootBuiltins (x : Str) = some (.builtin x) ∧ CallR X (.type y) r1 ∧ bootBuiltins (y : Str) = some (.type y) ∧ Nest X o r1 r2
  | .sset k, _, _, rfl => ⟨_, _, cr_sortedSet hc, by decide +kernel, cr_setI hc, by decide +kernel, nest_sset k⟩
  | .lset, _, _, rfl => ⟨_, _, cr_lenSet, by decide +kernel, cr_setI hc, by decide +kernel, nest_lset⟩
theorem nestT_ok (hc : X.calm = true) : ∀ (o : Op) (x y : String), o.kind = .nestT x y → ∃ r1 r2, CallR X (.type x) r2 ∧ bootBuiltins (x : Str) = some (.type x) ∧ CallR X (.type y) r1 ∧ bootBuiltins (y : Str) = some (.type y) ∧ Nest X o r1 r2
  | .lrng k, _, _, rfl => ⟨_, _, cr_listR hc, by decide +kernel, cr_range1, by decide +kernel, nest_lrng k⟩
/-- an operation, its operands given -/
theorem soundOp (ok : ZOk X C G c) {o : Op} {es : Exs} {e : Expr} {ps : List Expr} (h : parts c X.env.scope o.kind e = some ps) (hl : PEL X W C G es ps) : PE X e (lE X.K W (wE C G (.op o es))) := by
  have hargs := hl.args ok.mono
  have hforms := hl.forms
  have key : ∀ {σ : L2.St} {H : Hp} {Q : VK}, lE X.K W (wE C G (.op o es)) σ H Q → lA X.K W (wEs C G es) σ H (fun xs H1 => rZs X.K (opW o) xs H1 Q) := fun {σ H Q} q => by
    have q' : lE X.K W (fun env M Q E => wEs C G es env M (fun ds M1 => opW o ds M1 Q) E) σ H Q := by simpa only [wE] using q
    exact args_lift (ws := wEs C G es) (k := opW o) (fun h q r => wEs_mono ok.mono es h q r) (fun h q => opW_mono h q) q'
  cases hk : o.kind with
  | bin f =>
    rw [hk] at h
    obtain ⟨a, b, pos, rfl, rfl⟩ := parts_bin h
    obtain ⟨e1, e2, rfl, f1, f2, h1, h2⟩ := hl.two
    refine (pe_op (bin_ok ok.units o _ hk) h1 h2).imp fun σ H Q q => ?_
    exact two_lift (wa := wE C G e1) (wb := wE C G e2) (k := fun x y M Q => opW o [x, y] M Q) (ok.Ew e1) (ok.Ew e2) (fun h q => opW_mono h q) (by simpa only [wE, wEs] using q)
  | cmp f =>
    rw [hk] at h
    obtain ⟨a, b, pos, rfl, rfl⟩ := parts_cmp h
    obtain ⟨e1, e2, rfl, f1, f2, h1, h2⟩ := hl.two
    refine (pe_cmpR (cmp_ok ok.units o _ hk) h1 h2 (marks_ok f2 _)).imp fun σ H Q q => ?_
    exact two_lift (wa := wE C G e1) (wb := wE C G e2) (k := fun x y M Q => opW o [x, y] M Q) (ok.Ew e1) (ok.Ew e2) (fun h q => opW_mono h q) (by simpa only [wE, wEs] using q)
  | neg =>
    rw [hk] at h
    have ho : o = .neg := by cases o <;> first | rfl | (cases hk)
    subst ho
    obtain ⟨a, pos, rfl, rfl⟩ := parts_neg h
    obtain ⟨e1, rfl, f1, h1⟩ := hl.one
    refine (pe_un negZ h1).imp fun σ H Q q => ?_
    exact one_lift (wa := wE C G e1) (k := fun x M Q => opW .neg [x] M Q) (ok.Ew e1) (fun h q => opW_mono h q) (by simpa only [wE, wEs] using q)
  | idx =>
    rw [hk] at h
    have ho : o = .idx := by cases o <;> first | rfl | (cases hk)
    subst ho
    obtain ⟨a, b, pos, rfl, rfl⟩ := parts_idx h
    obtain ⟨e1, e2, rfl, f1, f2, h1, h2⟩ := hl.two
    have hu := ok.units
    refine (pe_ix (idxZ (by omega)) h1 h2 (plain_ok f2)).imp fun σ H Q q => ?_
    exact two_lift (wa := wE C G e1) (wb := wE C G e2) (k := idxW) (ok.Ew e1) (ok.Ew e2) (fun h q => idxW_mono h q) (by simpa only [wE, wEs, opW] using q)
  | blt x =>
    rw [hk] at h
    obtain ⟨y, p, a, as, pos, rfl, rfl, hcl⟩ := parts_blt h
    obtain ⟨rfl, g1, g2, g3, g4⟩ := callee_ok ok hcl
    obtain ⟨r1, r2⟩ := blt_ok ok.units ok.calm o _ hk
    simp only [List.all_cons, Bool.and_eq_true] at hforms
    exact (pe_callB r1 g1 g2 r2 hargs g4 g3 (star_ok hforms.1 _ _) (star_any hforms.2 _ _)).imp fun σ H Q q => key q
  | bty x =>
    rw [hk] at h
    obtain ⟨y, p, a, as, pos, rfl, rfl, hcl⟩ := parts_bty h
    obtain ⟨rfl, g1, g2, g3, g4⟩ := callee_ok ok hcl
    obtain ⟨r1, r2⟩ := bty_ok ok.calm o _ hk
    simp only [List.all_cons, Bool.and_eq_true] at hforms
    exact (pe_callTy r1 g1 g2 r2 hargs g4 g3 (star_ok hforms.1 _ _) (star_any hforms.2 _ _)).imp fun σ H Q q => key q
  | rev =>
    rw [hk] at h
    obtain ⟨k, rfl⟩ : ∃ k, o = .rev k := by cases o <;> first | exact ⟨_, rfl⟩ | (cases hk)
    obtain ⟨a, k', p1, p2, p3, pos, rfl, rfl⟩ := parts_rev h
    obtain ⟨e1, rfl, f1, h1⟩ := hl.one
    refine (pe_revL h1).imp fun σ H Q q => ?_
    obtain ⟨F, M, env, R, N, q⟩ := q
    simp only [wE, wEs, opW] at q
    refine ⟨F, M, env, R, N, wE_mono ok.mono e1 q (fun d M1 z F1 H1 v s1 R1 r1 => ?_) fun _ _ z => z⟩
    split at z
    · rename_i l el
      obtain ⟨a, vs, rfl, hp, q1⟩ := R1.lstOf_of r1 el
      exact ⟨a, vs, rfl, hp, (newL_ok R1 (newL_mono z fun d M z => z.mono s1) (drs_rev q1)).2⟩
    · exact z.elim
  | nestB x y =>
    rw [hk] at h
    obtain ⟨u, v, p, q, r, pos, a, as, rfl, rfl, hcl, hcl2⟩ := parts_nestB h
    obtain ⟨rfl, g1, g2, g3, g4⟩ := callee_ok ok hcl
    obtain ⟨rfl, k1, k2, k3, k4⟩ := callee_ok ok hcl2
    obtain ⟨r1, r2, c1, c2, c3, c4, nst⟩ := nestB_ok (X := X) ok.calm o _ _ hk
    simp only [List.all_cons, Bool.and_eq_true] at hforms
    have hin := pe_callTy (p := q) (pos := r) c3 k1 k2 c4 hargs k4 k3 (star_ok hforms.1 _ _) (star_any hforms.2 _ _)
    refine (pe_callB c1 g1 g2 c2 (pa_cons hin pa_nil) g4 g3).imp fun σ H Q q => ?_
    obtain ⟨F, M, env, R, N, q⟩ := key q
    exact ⟨F, M, env, R, N, wEs_mono ok.mono es q (fun ds M1 z F1 H1 vs s1 R1 r1 => nst _ _ _ (z F1 H1 vs s1 R1 r1)) fun _ _ z => z⟩
  | nestT x y =>
    rw [hk] at h
    obtain ⟨u, v, p, q, r, pos, a, as, rfl, rfl, hcl, hcl2⟩ := parts_nestT h
    obtain ⟨rfl, g1, g2, g3, g4⟩ := callee_ok ok hcl
    obtain ⟨rfl, k1, k2, k3, k4⟩ := callee_ok ok hcl2
    obtain ⟨r1, r2, c1, c2, c3, c4, nst⟩ := nestT_ok (X := X) ok.calm o _ _ hk
    simp only [List.all_cons, Bool.and_eq_true] at hforms
    have hin := pe_callTy (p := q) (pos := r) c3 k1 k2 c4 hargs k4 k3 (star_ok hforms.1 _ _) (star_any hforms.2 _ _)
    refine (pe_callTy c1 g1 g2 c2 (pa_cons hin pa_nil) g4 g3).imp fun σ H Q q => ?_
    obtain ⟨F, M, env, R, N, q⟩ := key q
    exact ⟨F, M, env, R, N, wEs_mono ok.mono es q (fun ds M1 z F1 H1 vs s1 R1 r1 => nst _ _ _ (z F1 H1 vs s1 R1 r1)) fun _ _ z => z⟩
  | tup =>
    rw [hk] at h
    have ho : o = .tup := by cases o <;> first | rfl | (cases hk)
    subst ho
    obtain ⟨k, pos, rfl⟩ := parts_tup h
    refine (pe_tup hargs).imp fun σ H Q q => ?_
    obtain ⟨F, M, env, R, N, q⟩ := q
    simp only [wE] at q
    refine ⟨F, M, env, R, N, wEs_mono ok.mono es q (fun ds M1 z F1 H1 vs s1 R1 r1 => ?_) fun _ _ z => z⟩
    simp only [opW] at z
    exact ⟨by rw [← r1.length]; exact z.1, newT_ok R1 (z.2.mono s1) r1⟩
  | lst =>
    rw [hk] at h
    obtain ⟨k, rfl⟩ : ∃ k, o = .lst k := by cases o <;> first | exact ⟨_, rfl⟩ | (cases hk)
    obtain ⟨pos, rfl⟩ := parts_lst h
    refine (pe_lst hargs).imp fun σ H Q q => ?_
    obtain ⟨F, M, env, R, N, q⟩ := q
    simp only [wE] at q
    refine ⟨F, M, env, R, N, wEs_mono ok.mono es q (fun ds M1 z F1 H1 vs s1 R1 r1 => ?_) fun _ _ z => z⟩
    simp only [opW] at z
    exact newL_ok R1 (newL_mono z fun d M z => z.mono s1) r1
/-- a method of a list -/
theorem soundMth (ok : ZOk X C G c) {m : Mt} {o : Ex} {es : Exs} {p : Expr} {apos cpos : Pos} {ps : List Expr} (hb : okRecv p = true) (hline : (apos.endLine == cpos.line) = true) (hlen : ps.length < 20) (ho : PE X p (lE X.K W (wE C G o)))
    (hl : PEL X W C G es ps) : PE X (.Call (.Attribute p (m.nm : Str) apos) ps [] cpos) (lE X.K W (wE C G (.mth m o es))) := by
  have hargs := hl.args ok.mono
  have hforms := hl.forms
  have key : ∀ {σ : L2.St} {H : Hp} {Q : VK}, lE X.K W (wE C G (.mth m o es)) σ H Q → lE X.K W (wE C G o) σ H fun x H1 => tyV X.K "list" x H1 ∧ lA X.K W (wEs C G es) σ H1 fun xs H2 => rM X.K m x xs H2 Q := by
    intro σ H Q q
    obtain ⟨F, M, env, R, N, q⟩ := q
    simp only [wE] at q
    refine ⟨F, M, env, R, N, wE_mono ok.mono o q (fun x M1 z F1 H1 v s1 R1 r1 => ?_) fun _ _ z => z⟩
    refine ⟨mtTy_ok R1 r1 z.1, F1, M1, env, R1, N.mono s1, wEs_mono ok.mono es z.2 (fun ds M2 z F2 H2 vs s2 R2 r2 => ?_) fun x M z => z.mono s1⟩
    exact ⟨F2, M2, x, ds, R2, r1.mono s2, r2, mtW_mono z fun d M z => z.mono (s1.trans s2)⟩
  cases ps with
  | nil =>
    have hn : es = .nil := by
      cases es with
      | nil => rfl
      | cons _ _ =>
        obtain ⟨_, _, h0, _⟩ := hl
        cases h0
    subst hn
    have key0 : ∀ {σ : L2.St} {H : Hp} {Q : VK}, lE X.K W (wE C G (.mth m o .nil)) σ H Q → lE X.K W (wE C G o) σ H fun x H1 => tyV X.K "list" x H1 ∧ rM X.K m x [] H1 Q := by
      intro σ H Q q
      obtain ⟨F, M, env, R, N, q⟩ := key q
      refine ⟨F, M, env, R, N, wE_mono ok.mono o q (fun x M1 z F1 H1 v s1 R1 r1 => ?_) fun _ _ z => z⟩
      obtain ⟨z1, F2, M2, env2, R2, N2, z2⟩ := z F1 H1 v s1 R1 r1
      simp only [wEs] at z2
      exact ⟨z1, z2 F2 H1 [] (Same.refl _) R2 .nil⟩
    cases m with
    | pop => exact (pe_bm0 PySem.F.plainAttrs_list PySem.F.slot_list_pop PySem.F.type_list_pop popZ ho (recv_ok hb _ _ _) hline).imp fun σ H Q q => key0 q
    | clear => exact (pe_bm0 PySem.F.plainAttrs_list PySem.F.slot_list_clear PySem.F.type_list_clear clearZ ho (recv_ok hb _ _ _) hline).imp fun σ H Q q => key0 q
    | popAt => exact (pe_bm0 PySem.F.plainAttrs_list PySem.F.slot_list_pop PySem.F.type_list_pop popAtZ ho (recv_ok hb _ _ _) hline).imp fun σ H Q q => key0 q
    | append => exact (pe_bm0 PySem.F.plainAttrs_list PySem.F.slot_list_append PySem.F.type_list_append appendZ ho (recv_ok hb _ _ _) hline).imp fun σ H Q q => key0 q
    | extend => exact (pe_bm0 PySem.F.plainAttrs_list PySem.F.slot_list_extend PySem.F.type_list_extend extendZ ho (recv_ok hb _ _ _) hline).imp fun σ H Q q => key0 q
    | insert => exact (pe_bm0 PySem.F.plainAttrs_list PySem.F.slot_list_insert PySem.F.type_list_insert insertZ ho (recv_ok hb _ _ _) hline).imp fun σ H Q q => key0 q
  | cons q qs =>
    simp only [List.all_cons, Bool.and_eq_true] at hforms
    have hfew : ((backTo cpos (starEach (q :: qs) X.env)).all (fun x => !x.1) && (backToKw cpos (keywordEach [] X.env)).all (fun x => x.1.isSome)
        && decide ((q :: qs).length + ([] : List Keyword).length + (if ([] : List Keyword).isEmpty then 0 else 1) < 30)) = true := by
      rw [star_all (by simpa using hforms)]
      simp only [keywordEach, backToKw, List.length_nil, List.isEmpty_nil]
      simp at hlen ⊢
      first | omega | exact ⟨trivial, by omega⟩
    have hs := star_ok hforms.1 qs X.env
    have hp := star_any hforms.2 cpos X.env
    cases m with
    | pop => exact (pe_bm PySem.F.plainAttrs_list PySem.F.slot_list_pop PySem.F.type_list_pop popZ ho hargs (recv_ok hb _ _ _) hfew hline hs hp).imp fun σ H Q q => key q
    | clear => exact (pe_bm PySem.F.plainAttrs_list PySem.F.slot_list_clear PySem.F.type_list_clear clearZ ho hargs (recv_ok hb _ _ _) hfew hline hs hp).imp fun σ H Q q => key q
    | popAt => exact (pe_bm PySem.F.plainAttrs_list PySem.F.slot_list_pop PySem.F.type_list_pop popAtZ ho hargs (recv_ok hb _ _ _) hfew hline hs hp).imp fun σ H Q q => key q
    | append => exact (pe_bm PySem.F.plainAttrs_list PySem.F.slot_list_append PySem.F.type_list_append appendZ ho hargs (recv_ok hb _ _ _) hfew hline hs hp).imp fun σ H Q q => key q
    | extend => exact (pe_bm PySem.F.plainAttrs_list PySem.F.slot_list_extend PySem.F.type_list_extend extendZ ho hargs (recv_ok hb _ _ _) hfew hline hs hp).imp fun σ H Q q => key q
    | insert => exact (pe_bm PySem.F.plainAttrs_list PySem.F.slot_list_insert PySem.F.type_list_insert insertZ ho hargs (recv_ok hb _ _ _) hfew hline hs hp).imp fun σ H Q q => key q
/-- a call of a def -/
theorem soundCall (ok : ZOk X C G c) (tk : Takes X W) {f : Str} {es : Exs} {p pos : Pos} {a : Expr} {as : List Expr} (hg : glB X.env.scope f = true) (hn : nameOk f = true) (hf : c.fns.lookup f = some (a :: as).length) (hl : PEL X W C G es (a :: as)) :
    PE X (.Call (.Name f p) (a :: as) [] pos) (lE X.K W (wE C G (.call f es))) := by
  have hargs := hl.args ok.mono
  have hforms := hl.forms
  simp only [List.all_cons, Bool.and_eq_true] at hforms
  obtain ⟨fa, fd, ps, k, h1, h2, h3, h4, h5, h6⟩ := ok.fns _ _ hf
  refine (pe_callS h6 h5 (glB_ok hg) h2 h3 h4 (fun σ => passAt tk σ) hargs (nameOk_1 hn).1 (star_ok hforms.1 _ _) (star_any hforms.2 _ _)).imp fun σ H Q q => ?_
  obtain ⟨F, M, env, R, N, q⟩ := q
  simp only [wE] at q
  refine ⟨F, M, env, R, N, wEs_mono ok.mono es q (fun ds M1 z F1 H1 vs s1 R1 r1 => ?_) fun _ _ z => z⟩
  exact ⟨F1, M1, ds, R1, r1, ok.mono _ _ _ _ _ _ _ z (fun d M z => z.mono s1) fun x M z => z.mono s1⟩
/-- a part of a slice -/
def PartOk (X : Cx) (W : WX) (C : CallSem) (G : Str → Option D) (w : Ex) (e : Option Expr) : Prop := match e with
  | some p => isAbs w = false ∧ PE X p (lE X.K W (wE C G w))
  | none => isAbs w = true
def tPt (K : PySem.W.Frag) (W : WX) (C : CallSem) (G : Str → Option D) (w : Ex) : TO := fun σ H Q => ∃ F M env, Rel K F H M ∧ EnvR K F env σ ∧
  wE C G w env M (fun d M1 => ∃ o, part (isAbs w) d = some o ∧ ∀ F' H', Same F F' → Rel K F' H' M1 → Q o H') (OutX K F fun cls d H => W cls d σ H)
theorem soundPart (ok : ZOk X C G c) {w : Ex} {e : Option Expr} (h : PartOk X W C G w e) : PO X e (tPt X.K W C G w) := by
  cases e with
  | none =>
    have h : isAbs w = true := h
    refine ⟨fun pins s σ H Q I q => ?_⟩
    obtain ⟨F, M, env, R, N, q⟩ := q
    cases w <;> simp only [isAbs] at h <;> try (cases h; done)
    simp only [wE, isAbs, part] at q
    obtain ⟨o, h1, h2⟩ := q
    cases h1
    exact po_none.run pins s σ H Q I (h2 F H (Same.refl _) R)
  | some p =>
    obtain ⟨h1, h2⟩ := h
    refine ⟨fun pins s σ H Q I q => ?_⟩
    refine (po_some h2).run pins s σ H Q I ?_
    obtain ⟨F, M, env, R, N, q⟩ := q
    refine ⟨F, M, env, R, N, wE_mono ok.mono w q (fun d M1 z F1 H1 v s1 R1 r1 => ?_) fun _ _ z => z⟩
    obtain ⟨o, e1, z⟩ := z
    rw [h1] at e1
    cases d <;> simp only [part] at e1 <;> try (cases e1; done)
    cases e1
    cases r1
    exact ⟨_, rfl, z F1 H1 s1 R1⟩
theorem soundSlice (ok : ZOk X C G c) {k : Bool} {a lo hi : Ex} {p : Expr} {l h : Option Expr} {p2 pos : Pos} (ha : PE X p (lE X.K W (wE C G a))) (hl : PartOk X W C G lo l) (hh : PartOk X W C G hi h) :
    PE X (.Subscript p (.Slice l h none p2) pos) (lE X.K W (wE C G (.slice k a lo hi))) := by
  refine (pe_slice (sliceZ k) ha (soundPart ok hl) (soundPart ok hh)).imp fun σ H Q q => ?_
  obtain ⟨F, M, env, R, N, q⟩ := q
  simp only [wE] at q
  refine ⟨F, M, env, R, N, wE_mono ok.mono a q (fun x M1 z F1 H1 v s1 R1 r1 => ?_) fun _ _ z => z⟩
  refine ⟨F1, M1, env, R1, N.mono s1, wE_mono ok.mono lo z (fun y M2 z => ?_) fun x M z => z.mono s1⟩
  split at z
  · rename_i l' el
    refine ⟨l', el, fun F2 H2 s2 R2 => ?_⟩
    refine ⟨F2, M2, env, R2, N.mono (s1.trans s2), wE_mono ok.mono hi z (fun u M3 z => ?_) fun x M z => z.mono (s1.trans s2)⟩
    split at z
    · rename_i h' eh
      refine ⟨h', eh, fun F3 H3 s3 R3 => ?_⟩
      exact ⟨F3, M3, x, R3, (r1.mono s2).mono s3, sliceW_mono z fun d M z => z.mono ((s1.trans s2).trans s3)⟩
    · exact z.elim
  · exact z.elim
end
end Z

set_option Elab.async false
set_option linter.all false
set_option maxRecDepth 100000
/-! Z11: comprehensions, displays of dicts, the theorem over all expressions. -/
namespace Z
open PySem PySem.Spec PyProof.Rows L2
mutual
theorem Fz.rfl' {M M' : MM} (d : D) : Fz M M' d d := .same d
end
theorem Fzs.refl {M M' : MM} : ∀ l : List D, Fzs M M' l l
  | [] => .nil
  | d :: ds => .cons (.same d) (Fzs.refl ds)
abbrev noW : WX := fun _ _ _ _ => False
def lIf (K : PySem.W.Frag) (C : CallSem) (G : Str → Option D) (ifs : Txs) : TT := fun σ H Q => ∃ F M env, Rel K F H M ∧ EnvR K F env σ ∧ wIfs C G ifs env M (OutB K F Q)
section
variable {X : Cx} {W : WX} {C : CallSem} {G : Str → Option D} {c : Cc}
theorem compRead (ok : ZOk X C G c) {k : Bool} {elt : Ex} {tg : Tg} {it : Z.It} {ifs : Txs} {σ : L2.St} {H : Hp} {Q : VK} (q : lE X.K W (wE C G (.comp k elt tg it ifs)) σ H Q) :
    tLc (lI X.K W (wI C G it)) (gZ X.K tg) (lIf X.K C G ifs) (lE X.K noW (wE C G elt)) (tgSlots tg) σ H Q := by
  obtain ⟨F, M, env, R, N, q⟩ := q
  simp only [wE] at q
  refine ⟨F, M, env, R, N, wI_mono ok.mono it q (fun l g M1 z F1 H1 J s1 R1 wk => ?_) fun _ _ z => z⟩
  intro p hp
  obtain ⟨mp, R2⟩ := R1.new hp (.lst .nil : OR X.K F1 (.lst []) (.lst []))
  have hz := z p mp
  generalize hstep : (fun x M2 (kk : Option D → MM → Prop) => bindT tg x (wipeD env (tgSlots tg)) M2 fun env2 => wIfs C G ifs env2 M2 fun b M3 => match b with
        | true => wE C G elt env2 M3 (fun d M4 => kk (some d) M4) (fun _ _ => False)
        | false => kk none M3) = step at hz
  generalize hdone : (fun acc M2 => match k with
          | true => Out X.K F Q (.cell p) M2
          | false => Out X.K F Q (.lst acc) (del M2 p)) = done at hz
  refine ⟨fun i m H' => m = l.length - i ∧ i ≤ l.length ∧ ∃ F' M' acc, Same F1 F' ∧ Rel X.K F' H' M' ∧ compL g step p done (l.drop i) acc M', ⟨_, rfl, Nat.zero_le _, F1, _, [], Same.refl _, R2, by simpa using hz⟩, ?_⟩
  rintro i m H' ⟨rfl, hi', F', M', acc, s', R', hc⟩
  by_cases hlt : i < l.length
  · have hd : l.drop i = l[i] :: l.drop (i + 1) := List.drop_eq_getElem_cons hlt
    rw [hd] at hc
    simp only [compL] at hc
    obtain ⟨hgd, hc⟩ := hc
    refine .inr ⟨wk.go F' H' M' i hlt s' R' hgd, fun H2 => ∃ F2 M2 acc2, Same F1 F2 ∧ Rel X.K F2 H2 M2 ∧ compL g step p done (l.drop (i + 1)) acc2 M2, fun H2 h2 => ⟨l.length - (i + 1), by omega, rfl, hlt, h2⟩, fun x H2 y => ?_⟩
    obtain ⟨F2, s2, R3, rx⟩ := wk.yld F' H' M' i l[i] (by simp [hlt]) s' R' hgd x H2 y
    subst hstep
    refine ⟨F2, M', wipeD env (tgSlots tg), l[i], R3, (N.mono ((s1.trans s').trans s2)).wipe _, rx, bindT_mono tg hc fun env2 z2 σ2 N2 off => ⟨wipe_off off, ?_⟩⟩
    refine ⟨F2, M', env2, R3, N2, wIfs_mono ok.mono ifs z2 fun b M3 z3 F3 H3 s3 R4 => ?_⟩
    cases b with
    | true =>
      simp only [if_true]
      refine ⟨F3, M3, env2, R4, N2.mono s3, wE_mono ok.mono elt z3 (fun d M4 z4 F4 H4 v s4 R5 r5 => ?_) fun _ _ z => z.elim⟩
      obtain ⟨hp4, hl4, hc4⟩ := z4
      obtain ⟨vs, e1, e2, _⟩ := R5.lst_of hp4
      exact ⟨vs, e1, by rw [← e2.length]; exact hl4, F4, _, _, (((s'.trans s2).trans s3).trans s4), R5.wr hp4 (.lst (e2.append (.cons r5 .nil))), hc4⟩
    | false =>
      simp only [Bool.false_eq_true, if_false]
      exact ⟨F3, M3, acc, (s'.trans s2).trans s3, R4, z3⟩
  · have ei : i = l.length := by omega
    subst ei
    rw [List.drop_length] at hc
    simp only [compL] at hc
    obtain ⟨hgd, hpa, hc⟩ := hc
    refine .inl ⟨wk.stop F' H' M' s' R' hgd, ?_⟩
    subst hdone
    cases k with
    | true => exact hc F' H' _ (s1.trans s') R' (.cell p)
    | false =>
      obtain ⟨s3, R4⟩ := R'.froz (MSub.del (a := p))
      exact hc _ H' _ ((s1.trans s').trans s3) R4 (Fz.ok R' MSub.del (.cellL hpa (if_pos rfl) (Fzs.refl _)) (.cell p))
theorem soundComp (ok : ZOk X C G c) {k : Bool} {elt : Ex} {tg : Tg} {it : Z.It} {ifs : Txs} {elt' tg' it' : Expr} {ifs' : List Expr} {scope : Scope} {pos : Pos} (hi : PI X tg' it' (lI X.K W (wI C G it)))
    (hb : BlkOk X.N X.env.scope scope ((tgNames tg').zip (tgSlots tg))) (hlen : (tgNames tg').length = (tgSlots tg).length) (hfold : ∀ x, foldedSetIterable it' X.env x = pure x)
    (hg : ∀ (s : Shared) (H : Hp) (Ca : Addr) (cl : List (Str × Addr)) (fp : List Addr), PG (X.blk s H scope (compEnvC scope cl Ca X.env) fp) tg' (gZ X.K tg))
    (ht : ∀ (s : Shared) (H : Hp) (Ca : Addr) (cl : List (Str × Addr)) (fp : List Addr), PTs (X.blk s H scope (compEnvC scope cl Ca X.env) fp) ifs' (lIf X.K C G ifs))
    (he : ∀ (s : Shared) (H : Hp) (Ca : Addr) (cl : List (Str × Addr)) (fp : List Addr), PE (X.blk s H scope (compEnvC scope cl Ca X.env) fp) elt' (lE X.K noW (wE C G elt))) :
    PE X (.ListComp elt' [⟨tg', it', ifs', 0⟩] scope pos) (lE X.K W (wE C G (.comp k elt tg it ifs))) := by
  have h := pe_lc (pos := pos) ok.calm ok.nd hi hb hg ht he hfold
  rw [zip_snd hlen] at h
  exact h.imp fun σ H Q q => compRead ok q
theorem soundSetLc (ok : ZOk X C G c) {k : Bool} {elt : Ex} {tg : Tg} {it : Z.It} {ifs : Txs} {elt' tg' it' : Expr} {ifs' : List Expr} {scope : Scope} {pos spos py : Pos} {i : Nat} {y : Str} (hy : X.N[i]? = some y) (hyl : X.env.scope.names.lookup y = some .local)
    (hsw : swapsWith (.ListComp elt' [⟨tg', it', ifs', 0⟩] scope pos) (some (.Name y py)) spos.line X.env = pure true) (hi : PI X tg' it' (lI X.K W (wI C G it)))
    (hb : BlkOk X.N X.env.scope scope ((tgNames tg').zip (tgSlots tg))) (hlen : (tgNames tg').length = (tgSlots tg).length) (hfold : ∀ x, foldedSetIterable it' X.env x = pure x)
    (hg : ∀ (s : Shared) (H : Hp) (Ca : Addr) (cl : List (Str × Addr)) (fp : List Addr), PG (X.blk s H scope (compEnvC scope cl Ca X.env) fp) tg' (gZ X.K tg))
    (ht : ∀ (s : Shared) (H : Hp) (Ca : Addr) (cl : List (Str × Addr)) (fp : List Addr), PTs (X.blk s H scope (compEnvC scope cl Ca X.env) fp) ifs' (lIf X.K C G ifs))
    (he : ∀ (s : Shared) (H : Hp) (Ca : Addr) (cl : List (Str × Addr)) (fp : List Addr), PE (X.blk s H scope (compEnvC scope cl Ca X.env) fp) elt' (lE X.K noW (wE C G elt))) :
    PS X (.Assign [.Name y py] (.ListComp elt' [⟨tg', it', ifs', 0⟩] scope pos) spos) (tAsg (lE X.K W (wE C G (.comp k elt tg it ifs))) (gName i)) := by
  have h := ps_setLc (py := py) (pos := pos) (spos := spos) ok.calm ok.nd hy hyl hsw hi hb hg ht he hfold
  rw [zip_snd hlen] at h
  refine ⟨fun pins s σ H D I q => h.run pins s σ H D I (compRead ok q)⟩
/-! ### dicts written out -/
def trsOf (K : PySem.W.Frag) (W : WX) (C : CallSem) (G : Str → Option D) : Exs → List (TE × TE)
  | .cons k (.cons v r) => (lE K W (wE C G k), lE K W (wE C G v)) :: trsOf K W C G r
  | _ => []
def cntD : Exs → Nat
  | .cons _ (.cons _ r) => cntD r + 1
  | _ => 0
theorem pairs_lift (ok : ZOk X C G c) : ∀ (es : Exs) {σ : L2.St} {H : Hp} {F : Hp} {M : MM} {env : Env} {Q : List (V × V) → Hp → Prop} {K' : List (Key × D) → MM → Prop}, Rel X.K F H M → EnvR X.K F env σ →
    wDi C G es env M K' (OutX X.K F fun cls d H => W cls d σ H) →
    (∀ kvs M' F' H' (ws : List (Key × V)), K' kvs M' → Same F F' → Rel X.K F' H' M' → ws.map (·.1) = kvs.map (·.1) → DRs X.K F' (kvs.map (·.2)) (ws.map (·.2)) → ws.length = cntD es → Q (ws.map fun kv => (kV kv.1, kv.2)) H') →
    tPairs (trsOf X.K W C G es) σ H Q
  | .nil, σ, H, F, M, env, Q, K', R, N, h, hq => by
    simp only [wDi] at h
    exact hq [] M F H [] h (Same.refl _) R rfl .nil rfl
  | .cons _ .nil, _, _, _, _, _, _, _, _, _, h, _ => by simp only [wDi] at h
  | .cons k (.cons v r), σ, H, F, M, env, Q, K', R, N, h, hq => by
    simp only [wDi] at h
    refine ⟨F, M, env, R, N, wE_mono ok.mono k h (fun x M1 z F1 H1 a s1 R1 r1 => ?_) fun _ _ z => z⟩
    refine ⟨F1, M1, env, R1, N.mono s1, wE_mono ok.mono v z (fun y M2 z F2 H2 b s2 R2 r2 => ?_) fun x M z => z.mono s1⟩
    refine pairs_lift ok r R2 (N.mono (s1.trans s2)) (wDi_mono ok.mono r z (fun kvs M3 z => z) fun x M z => z.mono (s1.trans s2)) fun kvs M3 F3 H3 ws z s3 R3 hk hr hn => ?_
    split at z
    · rename_i k' ek
      have e := keyOf_ok r1 ek
      subst e
      exact hq ((k', y) :: kvs) M3 F3 H3 ((k', b) :: ws) z ((s1.trans s2).trans s3) R3 (by simp [hk]) (.cons (r2.mono s3) hr) (by simp [cntD, hn])
    · exact z.elim
theorem merge_rel {K : PySem.W.Frag} {F : Hp} : ∀ {more : List (Key × D)} {ws : List (Key × V)} {l : List (Key × D)} {kvs : List (Key × V)}, ws.map (·.1) = more.map (·.1) → DRs K F (more.map (·.2)) (ws.map (·.2)) →
    kvs.map (·.1) = l.map (·.1) → DRs K F (l.map (·.2)) (kvs.map (·.2)) → (mergeK kvs ws).map (·.1) = (dMerge l more).map (·.1) ∧ DRs K F ((dMerge l more).map (·.2)) ((mergeK kvs ws).map (·.2))
  | [], [], l, kvs, _, _, h1, h2 => ⟨h1, h2⟩
  | [], _ :: _, _, _, h, _, _, _ => by simp at h
  | _ :: _, [], _, _, h, _, _, _ => by simp at h
  | p :: more, q :: ws, l, kvs, h, r, h1, h2 => by
    simp only [List.map_cons, List.cons.injEq] at h r
    cases r with
    | cons r1 r2 =>
      obtain ⟨h3, h4⟩ := putK_keys (k := p.1) r1 h1 h2
      have ih := merge_rel h.2 r2 h3 h4
      unfold mergeK dMerge at ih ⊢
      simp only [List.foldl_cons, h.1]
      exact ih
/-- what stands behind a display -/
theorem dict_end {K : PySem.W.Frag} {F F' H' : Hp} {M' : MM} {k : Bool} {p : Addr} {kvs : List (Key × D)} {ws : List (Key × V)} {Q : VK} (s1 : Same F F') (R1 : Rel K F' H' M') (z1 : M' p = some (.dK []))
    (z2 : match k with
      | true => Out K F Q (.cell p) (put M' p (.dK (dMerge [] kvs)))
      | false => Out K F Q (.dct ((dMerge [] kvs).map (·.1)) ((dMerge [] kvs).map (·.2))) (del M' p)) (hk : ws.map (·.1) = kvs.map (·.1)) (hr : DRs K F' (kvs.map (·.2)) (ws.map (·.2))) : H' p = some (.dK []) ∧ Q (.ref p) (upd H' p (.dK (mergeK [] ws))) := by
  obtain ⟨_, u, e1, o⟩ := R1.own p _ z1
  cases o with
  | @dK _ kv0 hk0 hr0 =>
    have e0 : kv0 = [] := by simpa using hk0
    subst e0
    refine ⟨e1, ?_⟩
    obtain ⟨m1, m2⟩ := merge_rel (l := []) (kvs := []) hk hr rfl .nil
    have R4 := R1.wr z1 (.dK m1 m2)
    cases k with
    | true => exact z2 F' _ _ s1 R4 (.cell p)
    | false =>
      have hput : (put M' p (.dK (dMerge [] kvs))) p = some (.dK (dMerge [] kvs)) := put_same
      obtain ⟨s3, R5⟩ := R4.froz (MSub.del (a := p))
      have e5 : del (put M' p (.dK (dMerge [] kvs))) p = del M' p := by
        funext b
        unfold del put
        split <;> rfl
      have r5 := Fz.ok R4 MSub.del (.cellK (M' := del (put M' p (.dK (dMerge [] kvs))) p) hput (if_pos rfl) (Fzs.refl _)) (.cell p)
      rw [e5] at R5 r5
      rw [e5] at s3
      exact z2 _ _ _ (s1.trans s3) R5 r5
theorem soundDict (ok : ZOk X C G c) {k : Bool} {es : Exs} {ks : List (Option Expr)} {vs : List Expr} {pos : Pos} (h0 : ks ≠ []) (hall : ks.all (·.isSome) = true) (hl : ks.length = vs.length) (h15 : ks.length ≤ 15) (hcnt : cntD es = ks.length)
    (hp : PPs X pos ks vs (trsOf X.K W C G es)) : PE X (.Dict ks vs pos) (lE X.K W (wE C G (.dict k es))) := by
  refine (pe_disp hp hall hl h0 h15).imp fun σ H Q q => ?_
  obtain ⟨F, M, env, R, N, q⟩ := q
  simp only [wE] at q
  intro p hp
  obtain ⟨mp, R2⟩ := R.new hp (.dK rfl .nil : OR X.K F (.dK []) (.dK []))
  refine pairs_lift ok es R2 N (q p mp) fun kvs M' F' H' ws z s1 R1 hk hr hn => ?_
  obtain ⟨z1, z2⟩ := z
  obtain ⟨e1, h⟩ := dict_end s1 R1 z1 z2 hk hr
  exact ⟨e1, ws, rfl, by omega, h⟩
theorem soundDict0 (ok : ZOk X C G c) {k : Bool} {pos : Pos} : PE X (.Dict [] [] pos) (lE X.K W (wE C G (.dict k .nil))) := by
  refine pe_dnewK.imp fun σ H Q q => ?_
  obtain ⟨F, M, env, R, N, q⟩ := q
  simp only [wE, wDi] at q
  intro p hp
  obtain ⟨mp, R2⟩ := R.new hp (.dK rfl .nil : OR X.K F (.dK []) (.dK []))
  obtain ⟨z1, z2⟩ := q p mp
  have := (dict_end (kvs := []) (ws := []) (Same.refl _) R2 z1 z2 rfl .nil).2
  rw [upd_upd] at this
  exact this
end
end Z

set_option Elab.async false
set_option linter.all false
set_option maxRecDepth 100000
/-! Z12: the theorem over all expressions. -/
namespace Z
open PySem PySem.Spec PyProof.Rows L2
section
variable {C : CallSem} {G : Str → Option D} {c : Cc}
theorem ZOk.blk {X : Cx} (ok : ZOk X C G c) (s : Shared) (H : Hp) (scope : Scope) (cenv : PySem.Env) (fp : List Addr) : ZOk (X.blk s H scope cenv fp) C G c :=
  ⟨ok.mono, ok.N, ok.calm, ok.nd, ok.units, ok.fns, ok.free, ok.gls⟩
theorem takesNo {X : Cx} {xe : Value → Shared → Prop} (h : ∀ e s, ¬ xe e s ∨ True) : True := trivial
theorem takes_blk {X : Cx} (s : Shared) (H : Hp) (scope : Scope) (cenv : PySem.Env) (fp : List Addr) : Takes (X.blk s H scope cenv fp) noW := fun u s' x => by
  obtain ⟨_, _, _, _, _, _, _, _, _, _, _, _, _, _, _, _, w⟩ := x
  exact w.elim
theorem soundLit {X : Cx} {W : WX} {l : Lit} {e : Expr} (h : litB l e = true) : PE X e (lE X.K W (wE C G (.lit l))) := by
  have fin : ∀ {v : V} {d : D}, (∀ F, DR X.K F d v) → l.d = d → ∀ σ H Q, lE X.K W (wE C G (.lit l)) σ H Q → tC v σ H Q := fun hd e σ H Q q => by
    obtain ⟨F, M, env, R, N, q⟩ := q
    simp only [wE, e] at q
    exact q F H _ (Same.refl _) R (hd F)
  unfold litB at h
  split at h
  · simp only [decide_eq_true_eq] at h
    subst h
    exact pe_int.imp (fin (fun F => .int _) rfl)
  · simp only [decide_eq_true_eq] at h
    subst h
    exact pe_bl.imp (fin (fun F => .bl _) rfl)
  · exact pe_non.imp (fin (fun F => .non) rfl)
  · simp only [decide_eq_true_eq] at h
    subst h
    exact pe_str.imp (fin (fun F => .str _) rfl)
  · cases h
mutual
theorem soundE : ∀ (ir : Ex) (X : Cx) (W : WX) (e : Expr), ZOk X C G c → Takes X W → chkE c X.env.scope ir e = true → PE X e (lE X.K W (wE C G ir))
  | .var i, X, W, e, ok, tk, h => by
    simp only [chkE] at h
    split at h
    · simp only [Bool.and_eq_true, decide_eq_true_eq] at h
      obtain ⟨⟨h1, h2⟩, h3⟩ := h
      obtain ⟨n1, n2, _⟩ := nameOk_1 h3
      rw [← ok.N] at h1
      refine (pe_var h1 (visB_ok h2) n1 n2).imp fun σ H Q q => ?_
      obtain ⟨F, M, env, R, N, q⟩ := q
      simp only [wE] at q
      split at q
      · rename_i d e
        obtain ⟨v, e1, r⟩ := N.get _ _ e
        exact ⟨v, e1, q F H v (Same.refl _) R r⟩
      · exact q.elim
    · cases h
  | .lit l, X, W, e, ok, tk, h => soundLit (by simpa only [chkE] using h)
  | .glob x, X, W, e, ok, tk, h => by
    simp only [chkE] at h
    split at h
    · rename_i y p
      simp only [Bool.and_eq_true, decide_eq_true_eq] at h
      obtain ⟨⟨⟨rfl, h1⟩, h2⟩, h3⟩ := h
      obtain ⟨n1, n2, n3⟩ := nameOk_1 h2
      cases hG : G x with
      | none =>
        refine ⟨fun pins s σ H Q I q => ?_⟩
        obtain ⟨F, M, env, R, N, q⟩ := q
        simp only [wE, hG] at q
      | some d =>
        have fin : ∀ {v : V}, (∀ F, DR X.K F d v) → ∀ σ H Q, lE X.K W (wE C G (.glob x)) σ H Q → tC v σ H Q := fun hd σ H Q q => by
          obtain ⟨F, M, env, R, N, q⟩ := q
          simp only [wE, hG] at q
          exact q F H _ (Same.refl _) R (hd F)
        rcases ok.gls x h3 d hG with ⟨u, v, g1, g2, g3⟩ | ⟨n, rfl, g1, g2⟩
        · exact (pe_glob (glB_ok h1) g1 g2 n1).imp (fin g3)
        · exact (pe_bltn (v := .ty n) (glB_ok h1) g1 g2 rfl n3 n1).imp (fin fun F => .ty n)
    · cases h
  | .op o es, X, W, e, ok, tk, h => by
    simp only [chkE] at h
    split at h
    · rename_i ps hp
      exact soundOp ok hp (soundEs es X W ps ok tk h)
    · cases h
  | .mth m o es, X, W, e, ok, tk, h => by
    simp only [chkE] at h
    split at h
    · simp only [Bool.and_eq_true, decide_eq_true_eq] at h
      obtain ⟨⟨⟨⟨⟨⟨rfl, h2⟩, h3⟩, h4⟩, h5⟩, h6⟩, h7⟩ := h
      exact soundMth ok h3 h2 h7 (soundE o X W _ ok tk h5) (soundEs es X W _ ok tk h6)
    · cases h
  | .bool k es, X, W, e, ok, tk, h => by
    simp only [chkE] at h
    split at h
    · rename_i f ps pos
      simp only [Bool.and_eq_true, decide_eq_true_eq] at h
      obtain ⟨rfl, h2⟩ := h
      have hl := soundEs es X W ps ok tk h2
      have fin : ∀ σ H Q, lE X.K W (wE C G (.bool k es)) σ H Q → lE X.K W (wBo C G k es) σ H Q := fun σ H Q q => by
        obtain ⟨F, M, env, R, N, q⟩ := q
        simp only [wE] at q
        exact ⟨F, M, env, R, N, q⟩
      cases ps with
      | nil =>
        refine ⟨fun pins s σ H Q I q => ?_⟩
        obtain ⟨F, M, env, R, N, q⟩ := fin _ _ _ q
        cases es with
        | nil => simp only [wBo] at q
        | cons _ _ =>
          obtain ⟨_, _, h0, _⟩ := hl
          cases h0
      | cons p ps => exact (PEL.bool ok.mono k hl (by simp)).imp fin
    · cases h
  | .not_ a, X, W, e, ok, tk, h => by
    simp only [chkE] at h
    split at h
    · simp only [Bool.and_eq_true] at h
      refine (pe_not (soundE a X W _ ok tk h.2)).imp fun σ H Q q => ?_
      obtain ⟨F, M, env, R, N, q⟩ := q
      simp only [wE] at q
      refine ⟨F, M, env, R, N, wE_mono ok.mono a q (fun x M1 z F1 H1 v s1 R1 r1 => ?_) fun _ _ z => z⟩
      split at z
      · cases r1
        exact ⟨_, rfl, z F1 H1 _ s1 R1 (.bl _)⟩
      · exact z.elim
    · cases h
  | .ite t a b, X, W, e, ok, tk, h => by
    simp only [chkE] at h
    split at h
    · simp only [Bool.and_eq_true] at h
      obtain ⟨⟨⟨⟨h1, _⟩, h2⟩, _⟩, h3⟩ := h
      refine (pe_ifExp (soundX t X W _ ok tk h1) (soundE a X W _ ok tk h2) (soundE b X W _ ok tk h3)).imp fun σ H Q q => ?_
      obtain ⟨F, M, env, R, N, q⟩ := q
      simp only [wE] at q
      refine ⟨F, M, env, R, N, wT_mono ok.mono t q (fun k M1 z F1 H1 s1 R1 => ?_) fun _ _ z => z⟩
      cases k with
      | true => exact (if_pos rfl).mpr ⟨F1, M1, env, R1, N.mono s1, wE_mono ok.mono a z (fun d M z => z.mono s1) fun x M z => z.mono s1⟩
      | false => exact (if_neg Bool.false_ne_true).mpr ⟨F1, M1, env, R1, N.mono s1, wE_mono ok.mono b z (fun d M z => z.mono s1) fun x M z => z.mono s1⟩
    · cases h
  | .chain o p a b d, X, W, e, ok, tk, h => by
    simp only [chkE] at h
    split at h
    · simp only [Bool.and_eq_true] at h
      obtain ⟨⟨⟨⟨⟨⟨h1, _⟩, h2⟩, _⟩, h3⟩, h4⟩, h5⟩ := h
      split at h1
      · rename_i f' g' e1 e2
        simp only [Bool.and_eq_true, decide_eq_true_eq] at h1
        obtain ⟨rfl, rfl⟩ := h1
        refine (pe_chain (cmp_ok ok.units o _ e1) (cmp_ok ok.units p _ e2) (soundE a X W _ ok tk h2) (soundE b X W _ ok tk h3) (soundE d X W _ ok tk h5) (hm := by simp only [lastMarks]; exact marks_ok h4 _)).imp fun σ H Q q => ?_
        obtain ⟨F, M, env, R, N, q⟩ := q
        simp only [wE] at q
        refine ⟨F, M, env, R, N, wE_mono ok.mono a q (fun x M1 z F1 H1 v s1 R1 r1 => ?_) fun _ _ z => z⟩
        refine ⟨F1, M1, env, R1, N.mono s1, wE_mono ok.mono b z (fun y M2 z F2 H2 u s2 R2 r2 => ?_) fun x M z => z.mono s1⟩
        refine ⟨F2, M2, x, y, R2, r1.mono s2, r2, opW_mono z fun zz M3 z F3 H3 w3 s3 R3 r3 => ?_⟩
        split at z
        · cases r3
          refine ⟨_, rfl, ?_⟩
          simp only [if_true]
          refine ⟨F3, M3, env, R3, N.mono ((s1.trans s2).trans s3), wE_mono ok.mono d z (fun t M4 z F4 H4 w4 s4 R4 r4 => ?_) fun x M z => z.mono ((s1.trans s2).trans s3)⟩
          exact ⟨F4, M4, y, t, R4, (r2.mono s3).mono s4, r4, opW_mono z fun d M z => z.mono (((s1.trans s2).trans s3).trans s4)⟩
        · cases r3
          exact ⟨_, rfl, (if_neg Bool.false_ne_true).mpr (z F3 H3 _ ((s1.trans s2).trans s3) R3 (.bl _))⟩
        · exact z.elim
      · cases h1
    · cases h
  | .call f es, X, W, e, ok, tk, h => by
    simp only [chkE] at h
    split at h
    · simp only [Bool.and_eq_true, decide_eq_true_eq] at h
      obtain ⟨⟨⟨⟨rfl, h1⟩, h2⟩, h3⟩, h4⟩ := h
      exact soundCall ok tk h1 h2 h3 (soundEs es X W _ ok tk h4)
    · cases h
  | .slice k a lo hi, X, W, e, ok, tk, h => by
    simp only [chkE] at h
    split at h
    · rename_i p l hh p2 pos
      simp only [Bool.and_eq_true] at h
      obtain ⟨⟨⟨_, h1⟩, h2⟩, h3⟩ := h
      refine soundSlice ok (soundE a X W _ ok tk h1) ?_ ?_
      · cases l with
        | none => exact h2
        | some l =>
          simp only [Bool.and_eq_true] at h2
          refine ⟨?_, soundE lo X W _ ok tk h2.2⟩
          cases lo <;> first | rfl | (exact absurd h2.2 (by simp only [chkE]; decide))
      · cases hh with
        | none => exact h3
        | some l =>
          simp only [Bool.and_eq_true] at h3
          refine ⟨?_, soundE hi X W _ ok tk h3.2⟩
          cases hi <;> first | rfl | (exact absurd h3.2 (by simp only [chkE]; decide))
    · cases h
  | .absent, X, W, e, ok, tk, h => by simp only [chkE] at h; cases h
  | .comp k elt tg it ifs, X, W, e, ok, tk, h => by
    simp only [chkE] at h
    split at h
    · rename_i elt' tg' it' ifs' scope pos
      simp only [Bool.and_eq_true, decide_eq_true_eq] at h
      obtain ⟨⟨⟨⟨⟨⟨h1, h2⟩, h3⟩, h4⟩, h5⟩, h6⟩, h7⟩ := h
      rw [← ok.N] at h2 h4
      have hf : ∀ x, foldedSetIterable it' X.env x = pure x := by
        intro x
        cases it with
        | seq a =>
          simp only [chkI, Bool.and_eq_true] at h1
          exact folded_ok h1.1 _ _
        | _ =>
          simp only [chkI] at h1
          split at h1
          · rfl
          · cases h1
      refine soundComp ok (soundI it X W tg' it' ok tk h1) (blkOk_by h2) h3 hf (fun s H Ca cl fp => ?_) (fun s H Ca cl fp => ?_) fun s H Ca cl fp => ?_
      · exact soundT (X := X.blk s H scope (compEnvC scope cl Ca X.env) fp) ok.nd ok.calm (raw := scope) (fun x e => by show (scope.names.lookup x == some .cell) = true; rw [e]; rfl) tg tg' h4
      · have okb := ok.blk s H scope (compEnvC scope cl Ca X.env) fp
        cases ifs with
        | nil =>
          cases ifs' with
          | nil =>
            refine ⟨fun pins s σ H Q I q => ?_⟩
            obtain ⟨F, M, env, R, N, q⟩ := q
            simp only [wIfs] at q
            exact pts_nil.run pins s σ H Q I (q F H (Same.refl _) R)
          | cons _ _ => simp only [chkXs] at h5; cases h5
        | cons t ts =>
          cases ifs' with
          | nil => simp only [chkXs] at h5; cases h5
          | cons p ps =>
            simp only [chkXs, Bool.and_eq_true] at h5
            cases ts with
            | nil =>
              cases ps with
              | nil =>
                have ht := soundX t (X.blk s H scope (compEnvC scope cl Ca X.env) fp) noW p okb (takes_blk s H scope _ fp) h5.1
                refine ⟨fun pins s σ H Q I q => ?_⟩
                obtain ⟨F, M, env, R, N, q⟩ := q
                simp only [wIfs] at q
                exact (pts_one ht).run pins s σ H Q I ⟨F, M, env, R, N, wT_mono ok.mono t q (fun b M z => z) fun _ _ z => z.elim⟩
              | cons _ _ => have := h5.2; simp only [chkXs] at this; cases this
            | cons _ _ =>
              refine ⟨fun pins s σ H Q I q => ?_⟩
              obtain ⟨F, M, env, R, N, q⟩ := q
              simp only [wIfs] at q
      · have okb := ok.blk s H scope (compEnvC scope cl Ca X.env) fp
        exact soundE elt (X.blk s H scope (compEnvC scope cl Ca X.env) fp) noW elt' okb (takes_blk s H scope _ fp) h7
    · cases h
  | .dict k es, X, W, e, ok, tk, h => by
    simp only [chkE] at h
    split at h
    · rename_i ks vs pos
      simp only [Bool.and_eq_true, decide_eq_true_eq] at h
      obtain ⟨h1, h2, h3, h4⟩ := soundD es X W ks vs pos ok tk h.1
      cases ks with
      | nil =>
        have hv : vs = [] := by
          cases vs with
          | nil => rfl
          | cons _ _ => simp at h2
        subst hv
        have he : es = .nil := by
          cases es with
          | nil => rfl
          | cons a r =>
            cases r with
            | nil => have := h.1; simp only [chkD] at this; cases this
            | cons _ _ => simp [cntD] at h4
        subst he
        exact soundDict0 ok
      | cons k0 ks => exact soundDict ok (by simp) h3 h2 h.2 h4 h1
    · cases h
theorem soundEs : ∀ (ir : Exs) (X : Cx) (W : WX) (ps : List Expr), ZOk X C G c → Takes X W → chkEs c X.env.scope ir ps = true → PEL X W C G ir ps
  | .nil, X, W, ps, ok, tk, h => by
    simp only [chkEs] at h
    split at h
    · rfl
    · cases h
  | .cons e es, X, W, ps, ok, tk, h => by
    simp only [chkEs] at h
    split at h
    · simp only [Bool.and_eq_true] at h
      exact ⟨_, _, rfl, h.1.1, soundE e X W _ ok tk h.1.2, soundEs es X W _ ok tk h.2⟩
    · cases h
theorem soundD : ∀ (ir : Exs) (X : Cx) (W : WX) (ks : List (Option Expr)) (vs : List Expr) (pos : Pos), ZOk X C G c → Takes X W → chkD c X.env.scope ir ks vs = true →
    PPs X pos ks vs (trsOf X.K W C G ir) ∧ ks.length = vs.length ∧ ks.all (·.isSome) = true ∧ cntD ir = ks.length
  | .nil, X, W, ks, vs, pos, ok, tk, h => by
    simp only [chkD] at h
    split at h
    · exact ⟨pps_nil, rfl, rfl, rfl⟩
    · cases h
  | .cons _ .nil, X, W, ks, vs, pos, ok, tk, h => by simp only [chkD] at h; cases h
  | .cons k (.cons v r), X, W, ks, vs, pos, ok, tk, h => by
    simp only [chkD] at h
    split at h
    · simp only [Bool.and_eq_true] at h
      obtain ⟨⟨⟨⟨_, h1⟩, _⟩, h2⟩, h3⟩ := h
      obtain ⟨q1, q2, q3, q4⟩ := soundD r X W _ _ pos ok tk h3
      exact ⟨pps_cons (soundE k X W _ ok tk h1) (soundE v X W _ ok tk h2) q1, by simp [q2], by simp [q3], by simp [cntD, q4]⟩
    · cases h
theorem soundX : ∀ (ir : Tx) (X : Cx) (W : WX) (e : Expr), ZOk X C G c → Takes X W → chkX c X.env.scope ir e = true → PT X e (lT X.K W (wT C G ir))
  | .val a, X, W, e, ok, tk, h => by
    simp only [chkX, Bool.and_eq_true] at h
    have he : ∀ whole, isTrue e X.env whole = (do let v ← whole; standAt e.pos; holding [v] (truthy v)) := by
      have h1 := h.1
      split at h1 <;> first | (intro _; rfl) | cases h1
    refine (pt_truth (soundE a X W e ok tk h.2) he).imp fun σ H Q q => ?_
    obtain ⟨F, M, env, R, N, q⟩ := q
    simp only [wT] at q
    refine ⟨F, M, env, R, N, wE_mono ok.mono a q (fun x M1 z F1 H1 v s1 R1 r1 => ?_) fun _ _ z => z⟩
    unfold truW at z
    split at z
    · cases r1; exact ⟨_, rfl, z F1 H1 s1 R1⟩
    · cases r1; exact ⟨_, rfl, z F1 H1 s1 R1⟩
    · cases r1; exact ⟨_, rfl, z F1 H1 s1 R1⟩
    · exact z.elim
  | .cmp o a b, X, W, e, ok, tk, h => by
    simp only [chkX] at h
    split at h
    · simp only [Bool.and_eq_true] at h
      obtain ⟨⟨⟨⟨h1, _⟩, h2⟩, h3⟩, h4⟩ := h
      split at h1
      · rename_i f' e1
        simp only [decide_eq_true_eq] at h1
        subst h1
        refine (pt_cmpR (cmp_ok ok.units o _ e1) (soundE a X W _ ok tk h2) (soundE b X W _ ok tk h4) (marks_ok h3 _)).imp fun σ H Q q => ?_
        exact two_liftB (wa := wE C G a) (wb := wE C G b) (k := fun x y M Q => opW o [x, y] M Q) (ok.Ew a) (ok.Ew b) (fun h q => opW_mono h q) (by obtain ⟨F, M, env, R, N, q⟩ := q; simp only [wT] at q; exact ⟨F, M, env, R, N, q⟩)
      · cases h1
    · cases h
  | .chain o p a b d, X, W, e, ok, tk, h => by
    simp only [chkX] at h
    split at h
    · simp only [Bool.and_eq_true] at h
      obtain ⟨⟨⟨⟨⟨⟨h1, _⟩, h2⟩, _⟩, h3⟩, h4⟩, h5⟩ := h
      split at h1
      · rename_i f' g' e1 e2
        simp only [Bool.and_eq_true, decide_eq_true_eq] at h1
        obtain ⟨rfl, rfl⟩ := h1
        refine (pt_chain (cmp_ok ok.units o _ e1) (cmp_ok ok.units p _ e2) (soundE a X W _ ok tk h2) (soundE b X W _ ok tk h3) (soundE d X W _ ok tk h5) (hm := by simp only [lastMarks]; exact marks_ok h4 _)).imp fun σ H Q q => ?_
        obtain ⟨F, M, env, R, N, q⟩ := q
        simp only [wT] at q
        refine ⟨F, M, env, R, N, wE_mono ok.mono a q (fun x M1 z F1 H1 v s1 R1 r1 => ?_) fun _ _ z => z⟩
        refine ⟨F1, M1, env, R1, N.mono s1, wE_mono ok.mono b z (fun y M2 z F2 H2 u s2 R2 r2 => ?_) fun x M z => z.mono s1⟩
        refine ⟨F2, M2, x, y, R2, r1.mono s2, r2, opW_mono z fun zz M3 z F3 H3 w3 s3 R3 r3 => ?_⟩
        split at z
        · cases r3
          refine ⟨_, rfl, ?_⟩
          simp only [if_true]
          refine ⟨F3, M3, env, R3, N.mono ((s1.trans s2).trans s3), wE_mono ok.mono d z (fun t M4 z F4 H4 w4 s4 R4 r4 => ?_) fun x M z => z.mono ((s1.trans s2).trans s3)⟩
          refine ⟨F4, M4, y, t, R4, (r2.mono s3).mono s4, r4, opW_mono z fun zz M5 z F5 H5 w5 s5 R5 r5 => ?_⟩
          split at z
          · cases r5
            exact ⟨_, rfl, z F5 H5 ((((s1.trans s2).trans s3).trans s4).trans s5) R5⟩
          · exact z.elim
        · cases r3
          refine ⟨_, rfl, (if_neg Bool.false_ne_true).mpr ⟨_, rfl, z F3 H3 ((s1.trans s2).trans s3) R3⟩⟩
        · exact z.elim
      · cases h1
    · cases h
  | .not_ a, X, W, e, ok, tk, h => by
    simp only [chkX] at h
    split at h
    · refine (pt_not (soundX a X W _ ok tk h)).imp fun σ H Q q => ?_
      obtain ⟨F, M, env, R, N, q⟩ := q
      simp only [wT] at q
      exact ⟨F, M, env, R, N, wT_mono ok.mono a q (fun b M z => z) fun _ _ z => z⟩
    · cases h
  | .bool k ts, X, W, e, ok, tk, h => by
    simp only [chkX] at h
    split at h
    · rename_i f ps pos
      simp only [Bool.and_eq_true, decide_eq_true_eq] at h
      obtain ⟨rfl, h2⟩ := h
      have hl := soundXs ts X W ps ok tk h2
      have fin : ∀ σ H Q, lT X.K W (wT C G (.bool k ts)) σ H Q → lT X.K W (wBt C G k ts) σ H Q := fun σ H Q q => by
        obtain ⟨F, M, env, R, N, q⟩ := q
        simp only [wT] at q
        exact ⟨F, M, env, R, N, q⟩
      cases ps with
      | nil =>
        refine ⟨fun pins s σ H Q I q => ?_⟩
        obtain ⟨F, M, env, R, N, q⟩ := fin _ _ _ q
        cases ts with
        | nil => simp only [wBt] at q
        | cons _ _ =>
          obtain ⟨_, _, h0, _⟩ := hl
          cases h0
      | cons p ps => exact ((PTL.bool ok.mono k hl (by simp)).pt).imp fin
    · cases h
theorem soundXs : ∀ (ir : Txs) (X : Cx) (W : WX) (ps : List Expr), ZOk X C G c → Takes X W → chkXs c X.env.scope ir ps = true → PTL X W C G ir ps
  | .nil, X, W, ps, ok, tk, h => by
    simp only [chkXs] at h
    split at h
    · rfl
    · cases h
  | .cons e es, X, W, ps, ok, tk, h => by
    simp only [chkXs] at h
    split at h
    · simp only [Bool.and_eq_true] at h
      exact ⟨_, _, rfl, soundX e X W _ ok tk h.1, soundXs es X W _ ok tk h.2⟩
    · cases h
theorem soundI : ∀ (ir : Z.It) (X : Cx) (W : WX) (tg e : Expr), ZOk X C G c → Takes X W → chkI c X.env.scope ir tg e = true → PI X tg e (lI X.K W (wI C G ir))
  | .seq a, X, W, tg, e, ok, tk, h => by
    simp only [chkI, Bool.and_eq_true] at h
    refine (it_seq (wa := wE C G a) (ok.Ew a) (soundE a X W _ ok tk h.2)).imp fun σ H R q => ?_
    simp only [lI, wI] at q; exact q
  | .rng1 a, X, W, tg, e, ok, tk, h => by
    simp only [chkI] at h
    split at h
    · simp only [Bool.and_eq_true] at h
      obtain ⟨rfl, g1, g2, _, _⟩ := callee_ok ok h.1.1
      refine (it_rng1 (wa := wE C G a) (ok.Ew a) h.1.2 g1 g2 (soundE a X W _ ok tk h.2)).imp fun σ H R q => ?_
      simp only [lI, wI] at q; exact q
    · cases h
  | .rng2 a b, X, W, tg, e, ok, tk, h => by
    simp only [chkI] at h
    split at h
    · simp only [Bool.and_eq_true] at h
      obtain ⟨rfl, g1, g2, _, _⟩ := callee_ok ok h.1.1.1.1
      refine (it_rng2 (wa := wE C G a) (wb := wE C G b) (ok.Ew a) (ok.Ew b) h.1.1.1.2 h.1.2 g1 g2 (soundE a X W _ ok tk h.1.1.2) (soundE b X W _ ok tk h.2)).imp fun σ H R q => ?_
      simp only [lI, wI] at q; exact q
    · cases h
  | .enum a, X, W, tg, e, ok, tk, h => by
    simp only [chkI] at h
    split at h
    · simp only [Bool.and_eq_true] at h
      obtain ⟨rfl, g1, g2, _, _⟩ := callee_ok ok h.1.1
      refine (it_enum (wa := wE C G a) (ok.Ew a) h.1.2 g1 g2 (soundE a X W _ ok tk h.2)).imp fun σ H R q => ?_
      simp only [lI, wI] at q; exact q
    · cases h
  | .zip a b, X, W, tg, e, ok, tk, h => by
    simp only [chkI] at h
    split at h
    · simp only [Bool.and_eq_true] at h
      obtain ⟨rfl, g1, g2, _, _⟩ := callee_ok ok h.1.1.1.1
      refine (it_zip (wa := wE C G a) (wb := wE C G b) (ok.Ew a) (ok.Ew b) h.1.1.1.2 h.1.2 g1 g2 (soundE a X W _ ok tk h.1.1.2) (soundE b X W _ ok tk h.2)).imp fun σ H R q => ?_
      simp only [lI, wI] at q; exact q
    · cases h
end
end
end Z

set_option Elab.async false
set_option linter.all false
set_option maxRecDepth 100000
set_option maxHeartbeats 2000000
/-! Z13: statements. -/
namespace Z
open PySem PySem.Spec PyProof.Rows L2
/-! ### the checker -/
def notComps : Expr → Bool
  | .ListComp .. => false
  | .SetComp .. => false
  | .DictComp .. => false
  | _ => true
def isTupE : Expr → Bool
  | .Tuple .. => true
  | _ => false
def swB (sc : Scope) (x : Str) (p : Pos) : Expr → Bool
  | .ListComp _ _ scope pos => (sc.names.lookup x == some .local) && (p.line == pos.line) && !(scope.names.any fun (n, k) => n == x && (k == .local || k == .cell))
  | _ => false
/-- the IR of a comprehension -/
def notCellE : Ex → Bool
  | .comp .. => true
  | _ => false
mutual
def chkS (c : Cc) (sc : Scope) : Sx → Stmt → Bool
  | .asg i e, s => match s with
    | .Assign [.Name x p] v _ => decide (c.N[i]? = some x) && storB sc sc x && okForm v && chkE c sc e v && (notComps v || (swB sc x p v && notCellE e) || !(swB sc x p v))
    | _ => false
  | .asgT tg e, s => match s with
    | .Assign [.Tuple es k p] v _ => chkT c.N sc sc tg (.Tuple es k p) && okForm v && chkE c sc e v && !(isTupE v)
    | _ => false
  | .asgSub o i e, s => match s with
    | .Assign [.Subscript a b _] v _ => okForm a && chkE c sc o a && okForm b && chkE c sc i b && okForm v && chkE c sc e v
    | _ => false
  | .expr e, s => match s with
    | .Expr v _ => okForm v && notComps v && chkE c sc e v
    | _ => false
  | .ret _ e, s => match s with
    | .Return (some v) _ => okForm v && chkE c sc e v
    | _ => false
  | .retN, s => match s with
    | .Return none _ => true
    | _ => false
  | .ite t a b, s => match s with
    | .If p q r _ => chkX c sc t p && chkSs c sc a q && chkSs c sc b r
    | _ => false
  | .whl t b, s => match s with
    | .While p q [] _ => chkX c sc t p && chkSs c sc b q
    | _ => false
  | .for_ tg it b, s => match s with
    | .For tg' it' body [] _ => chkI c sc it tg' it' && chkT c.N sc sc tg tg' && chkSs c sc b body
    | _ => false
  | .pass, s => match s with
    | .Pass _ => true
    | .Expr (.Constant (.str _) _ _) _ => true
    | _ => false
  | .never, _ => true
def chkSs (c : Cc) (sc : Scope) : Sxs → List Stmt → Bool
  | .nil, ss => match ss with
    | [] => true
    | _ => false
  | .cons s r, ss => match ss with
    | t :: ts => chkS c sc s t && chkSs c sc r ts
    | [] => false
  | .gho r, ss => chkSs c sc r ss
end
/-! ### readings -/
def OutP (K : PySem.W.Frag) (W : WX) (F : Hp) (D : Ends) : Post where
  nx := fun env M => ∀ F' H' σ', Same F F' → Rel K F' H' M → EnvR K F' env σ' → D.nx σ' H'
  rt := Out K F D.rt
  xc := fun x env M => ∀ F' H' σ' cls d, Same F F' → Rel K F' H' M → EnvR K F' env σ' → XR K x cls d → W cls d σ' H'
def lS (K : PySem.W.Frag) (W : WX) (w : Env → MM → Post → Prop) : TS := fun D σ H => ∃ F M env, Rel K F H M ∧ EnvR K F env σ ∧ w env M (OutP K W F D)
theorem _root_.L2.PS.imp {X : Cx} {e : Stmt} {t t' : TS} (h : PS X e t) (i : ∀ σ H Q, t' Q σ H → t Q σ H) : PS X e t' := ⟨fun pins s σ H Q I q => h.run pins s σ H Q I (i _ _ _ q)⟩
theorem _root_.L2.PSs.imp {X : Cx} {e : List Stmt} {t t' : TS} (h : PSs X e t) (i : ∀ σ H Q, t' Q σ H → t Q σ H) : PSs X e t' := ⟨fun pins s σ H Q I q => h.run pins s σ H Q I (i _ _ _ q)⟩
section
variable {K : PySem.W.Frag} {W : WX} {F F1 H : Hp} {D : Ends} {M : MM} {env : Env} {σ : L2.St}
theorem OutP.le (s : Same F F1) : PostLe (OutP K W F D) (OutP K W F1 D) :=
  ⟨fun env M z F' H' σ' s' => z F' H' σ' (s.trans s'), fun d M z => z.mono s, fun x env M z F' H' σ' cls d s' => z F' H' σ' cls d (s.trans s')⟩
theorem OutP.xcE (N : EnvR K F env σ) (x : Xc) (M : MM) (h : (OutP K W F D).xc x env M) : OutX K F (fun cls d H => W cls d σ H) x M := fun F' H' cls d s R xr => h F' H' σ cls d s R (N.mono s) xr
end
theorem sw_not {e : Expr} (h : notComps e = true) (t : Option Expr) (l : Nat) (env : PySem.Env) : swapsWith e t l env = pure false := by
  cases e <;> first | rfl | (simp [notComps] at h)
theorem sw_tup {e : Expr} (hf : okForm e = true) (es : List Expr) (k : Nat) (p : Pos) (l : Nat) (env : PySem.Env) : swapsWithSole [.Tuple es k p] e l env = pure false := by
  cases e <;> first | rfl | (simp [okForm] at hf)
theorem sw_sub {e : Expr} (hf : okForm e = true) (a b : Expr) (p : Pos) (l : Nat) (env : PySem.Env) : swapsWithSole [.Subscript a b p] e l env = pure false := by
  cases e <;> first | rfl | (simp [okForm] at hf)
theorem plain_asg {i : Expr} (h : okForm i = true) (o : Expr) (pos : Pos) (env : PySem.Env) : ∀ v, assign (.Subscript o i pos) env v = (do
      let ov ← holding [v] (eval o env)
      let iv ← holding [v, ov] (eval i env)
      standAt pos
      holding [v, ov, iv] (setItem ov iv v)
      release [v, ov, iv] []) := by
  intro v
  cases i <;> first | rfl | (simp [okForm] at h)
theorem ss_sub (e a b : Expr) (p : Pos) (env : PySem.Env) : swappedStores [.Subscript a b p] e env = pure none := by
  cases e <;> rfl
theorem ss_not {e : Expr} (h : isTupE e = false) (t : Expr) (env : PySem.Env) : swappedStores [t] e env = pure none := by
  cases e <;> first | (cases t <;> rfl) | (simp [isTupE] at h)
theorem sw_any {elt : Expr} {gs : List Comprehension} {scope : Scope} {pos py : Pos} {y : Str} {l : Nat} {env : PySem.Env} (hk : env.scope.kind = .function) :
    swapsWith (.ListComp elt gs scope pos) (some (.Name y py)) l env = pure (swB env.scope y py (.ListComp elt gs scope pos)) := by
  have hb : env.blockKind = .function := by unfold Env.blockKind; rw [hk]; rfl
  unfold swapsWith
  have ky : env.kindOf y = env.scope.names.lookup y := rfl
  simp only [hb, ky, Expr.pos, swB]
  rfl
section
variable {C : CallSem} {G : Str → Option D} {c : Cc}
theorem soundAsgC {k : Bool} {elt : Ex} {tg : Tg} {it : Z.It} {ifs : Txs} {X : Cx} {W : WX} {elt' : Expr} {gs : List Comprehension} {scope : Scope} {pos spos py : Pos} {i : Nat} {y : Str} (ok : ZOk X C G c) (tk : Takes X W) (hk : X.env.scope.kind = .function)
    (h : chkE c X.env.scope (.comp k elt tg it ifs) (.ListComp elt' gs scope pos) = true) (hy : X.N[i]? = some y) (hsw : swB X.env.scope y py (.ListComp elt' gs scope pos) = true) :
    PS X (.Assign [.Name y py] (.ListComp elt' gs scope pos) spos) (tAsg (lE X.K W (wE C G (.comp k elt tg it ifs))) (gName i)) := by
  simp only [chkE] at h
  split at h
  · rename_i e' elt' tg' it' ifs' scope pos he0
    cases he0
    simp only [Bool.and_eq_true, decide_eq_true_eq] at h
    obtain ⟨⟨⟨⟨⟨⟨h1, h2⟩, h3⟩, h4⟩, h5⟩, h6⟩, h7⟩ := h
    rw [← ok.N] at h2 h4
    have hf : ∀ x, foldedSetIterable it' X.env x = pure x := by
      intro x
      cases it with
      | seq a =>
        simp only [chkI, Bool.and_eq_true] at h1
        exact folded_ok h1.1 _ _
      | _ =>
        simp only [chkI] at h1
        split at h1
        · rfl
        · cases h1
    have hyl : X.env.scope.names.lookup y = some .local := by
      simp only [swB, Bool.and_eq_true, beq_iff_eq] at hsw
      exact hsw.1.1
    refine soundSetLc ok hy hyl ((sw_any hk).trans (by rw [hsw])) (soundI it X W tg' it' ok tk h1) (blkOk_by h2) h3 hf (fun s H Ca cl fp => ?_) (fun s H Ca cl fp => ?_) fun s H Ca cl fp => ?_
    · exact soundT (X := X.blk s H scope (compEnvC scope cl Ca X.env) fp) ok.nd ok.calm (raw := scope) (fun x e => by show (scope.names.lookup x == some .cell) = true; rw [e]; rfl) tg tg' h4
    · have okb := ok.blk s H scope (compEnvC scope cl Ca X.env) fp
      cases ifs with
      | nil =>
        cases ifs' with
        | nil =>
          refine ⟨fun pins s σ H Q I q => ?_⟩
          obtain ⟨F, M, env, R, N, q⟩ := q
          simp only [wIfs] at q
          exact pts_nil.run pins s σ H Q I (q F H (Same.refl _) R)
        | cons _ _ => simp only [chkXs] at h5; cases h5
      | cons t ts =>
        cases ifs' with
        | nil => simp only [chkXs] at h5; cases h5
        | cons p ps =>
          simp only [chkXs, Bool.and_eq_true] at h5
          cases ts with
          | nil =>
            cases ps with
            | nil =>
              have ht := soundX t (X.blk s H scope (compEnvC scope cl Ca X.env) fp) noW p okb (takes_blk s H scope _ fp) h5.1
              refine ⟨fun pins s σ H Q I q => ?_⟩
              obtain ⟨F, M, env, R, N, q⟩ := q
              simp only [wIfs] at q
              exact (pts_one ht).run pins s σ H Q I ⟨F, M, env, R, N, wT_mono ok.mono t q (fun b M z => z) fun _ _ z => z.elim⟩
            | cons _ _ => have := h5.2; simp only [chkXs] at this; cases this
          | cons _ _ =>
            refine ⟨fun pins s σ H Q I q => ?_⟩
            obtain ⟨F, M, env, R, N, q⟩ := q
            simp only [wIfs] at q
    · have okb := ok.blk s H scope (compEnvC scope cl Ca X.env) fp
      exact soundE elt (X.blk s H scope (compEnvC scope cl Ca X.env) fp) noW elt' okb (takes_blk s H scope _ fp) h7
  · cases h
section
variable {X : Cx} {W : WX} (ok : ZOk X C G c) (tk : Takes X W) (hk : X.env.scope.kind = .function) (hp : PassesOwn (model X.prog X.w) X.A X.env X.xe) (hf : ∀ x, X.env.scope.names.lookup x = some .cell → X.fn x = true)
include ok tk hk hp hf
theorem soundAsg {i : Nat} {e : Ex} {v : Expr} {x : Str} {p pos : Pos} (h : chkS c X.env.scope (.asg i e) (.Assign [.Name x p] v pos) = true) : PS X (.Assign [.Name x p] v pos) (tAsg (lE X.K W (wE C G e)) (gName i)) := by
  simp only [chkS, Bool.and_eq_true, decide_eq_true_eq] at h
  obtain ⟨⟨⟨⟨h1, h2⟩, h3⟩, h4⟩, h5⟩ := h
  rw [← ok.N] at h1
  have hx : Loc X.env.scope x ∧ (X.fn x = true ∨ X.env.scope.names.lookup x = some .local) := by
    unfold storB at h2
    split at h2
    · rename_i _ e2; exact ⟨.inl e2, .inr e2⟩
    · rename_i e1 e2; exact ⟨.inr e2, .inl (hf x e1)⟩
    · cases h2
  have he := soundE e X W v ok tk h4
  by_cases hn : notComps v = true
  · exact ps_set ok.nd h1 hx.1 he (sw_not hn _ _ _) hx.2
  · by_cases hs : swB X.env.scope x p v = true
    · have h5 : notCellE e = true := by simpa [hn, hs] using h5
      cases e with
      | comp k elt tg it ifs =>
        cases v with
        | ListComp elt' gs scope cpos => exact soundAsgC ok tk hk h4 h1 hs
        | _ => simp only [swB] at hs; cases hs
      | _ => simp only [notCellE] at h5; cases h5
    · have hs : swB X.env.scope x p v = false := by simpa using hs
      refine ps_set ok.nd h1 hx.1 he ?_ hx.2
      cases v with
      | ListComp elt' gs scope cpos => rw [sw_any hk, hs]
      | SetComp => simp [okForm] at h3
      | DictComp => simp [okForm] at h3
      | _ => exact absurd rfl hn
mutual
theorem soundS : ∀ (ir : Sx) (s : Stmt), chkS c X.env.scope ir s = true → PS X s (lS X.K W (wS C G ir))
  | .asg i e, s, h => by
    have h0 := h
    simp only [chkS] at h
    split at h
    · refine (soundAsg ok tk hk hp hf h0).imp fun σ H D q => ?_
      obtain ⟨F, M, env, R, N, q⟩ := q
      simp only [wS] at q
      exact ⟨F, M, env, R, N, wE_mono ok.mono e q (fun d M1 z F1 H1 v s1 R1 r1 => z F1 H1 _ s1 R1 ((N.mono s1).set r1 i)) fun x M1 z => OutP.xcE N x M1 z⟩
    · cases h
  | .asgT tg e, s, h => by
    simp only [chkS] at h
    split at h
    · simp only [Bool.and_eq_true, Bool.not_eq_true'] at h
      obtain ⟨⟨⟨h1, h2⟩, h3⟩, h4⟩ := h
      rw [← ok.N] at h1
      refine (ps_asg (soundE e X W _ ok tk h3) (soundT ok.nd ok.calm hf tg _ h1) (sw_tup h2 _ _ _ _ _) (ss_not h4 _ _)).imp fun σ H D q => ?_
      obtain ⟨F, M, env, R, N, q⟩ := q
      simp only [wS] at q
      refine ⟨F, M, env, R, N, wE_mono ok.mono e q (fun d M1 z F1 H1 v s1 R1 r1 => ?_) fun x M1 z => OutP.xcE N x M1 z⟩
      exact ⟨F1, M1, env, d, R1, N.mono s1, r1, bindT_mono tg z fun env1 z σ1 N1 _ => z F1 H1 σ1 s1 R1 N1⟩
    · cases h
  | .asgSub o i e, s, h => by
    simp only [chkS] at h
    split at h
    · simp only [Bool.and_eq_true] at h
      obtain ⟨⟨⟨⟨⟨h1, h2⟩, h3⟩, h4⟩, h5⟩, h6⟩ := h
      have hu := ok.units
      refine (ps_asg (soundE e X W _ ok tk h6) (pg_sub (soundE o X W _ ok tk h2) (soundE i X W _ ok tk h4) (setZ (by omega)) (plain_asg h3 _ _ _)) (sw_sub h5 _ _ _ _ _) (ss_sub _ _ _ _ _)).imp fun σ H D q => ?_
      obtain ⟨F, M, env, R, N, q⟩ := q
      simp only [wS] at q
      refine ⟨F, M, env, R, N, wE_mono ok.mono e q (fun v M1 z F1 H1 vv s1 R1 r1 => ?_) fun x M1 z => OutP.xcE N x M1 z⟩
      refine ⟨F1, M1, env, R1, N.mono s1, wE_mono ok.mono o z (fun x M2 z F2 H2 xv s2 R2 r2 => ?_) fun x M1 z => (OutP.xcE N x M1 z).mono s1⟩
      refine ⟨F2, M2, env, R2, N.mono (s1.trans s2), wE_mono ok.mono i z (fun y M3 z F3 H3 yv s3 R3 r3 => ?_) fun x M1 z => (OutP.xcE N x M1 z).mono (s1.trans s2)⟩
      exact ⟨F3, M3, x, y, v, R3, r2.mono s3, r3, r1.mono (s2.trans s3), setW_mono z fun M4 z H4 R4 => z F3 H4 σ ((s1.trans s2).trans s3) R4 (N.mono ((s1.trans s2).trans s3))⟩
    · cases h
  | .expr e, s, h => by
    simp only [chkS] at h
    split at h
    · simp only [Bool.and_eq_true] at h
      obtain ⟨⟨h1, h2⟩, h3⟩ := h
      refine (ps_expr (soundE e X W _ ok tk h3) (sw_not h2 _ _ _)).imp fun σ H D q => ?_
      obtain ⟨F, M, env, R, N, q⟩ := q
      simp only [wS] at q
      exact ⟨F, M, env, R, N, wE_mono ok.mono e q (fun d M1 z F1 H1 v s1 R1 r1 => z F1 H1 _ s1 R1 (N.mono s1)) fun x M1 z => OutP.xcE N x M1 z⟩
    · cases h
  | .ret b e, s, h => by
    simp only [chkS] at h
    split at h
    · simp only [Bool.and_eq_true] at h
      refine (ps_ret (soundE e X W _ ok tk h.2)).imp fun σ H D q => ?_
      obtain ⟨F, M, env, R, N, q⟩ := q
      cases b with
      | false =>
        simp only [wS] at q
        exact ⟨F, M, env, R, N, wE_mono ok.mono e q (fun d M1 z => z) fun x M1 z => OutP.xcE N x M1 z⟩
      | true =>
        simp only [wS] at q
        refine ⟨F, M, env, R, N, wE_mono ok.mono e q (fun d M1 z F1 H1 v s1 R1 r1 => ?_) fun x M1 z => OutP.xcE N x M1 z⟩
        obtain ⟨t, M2, h1, h2, z⟩ := z
        obtain ⟨s2, R2⟩ := R1.froz h1
        exact z _ H1 v (s1.trans s2) R2 (Fz.ok R1 h1 h2 r1)
    · cases h
  | .retN, s, h => by
    simp only [chkS] at h
    split at h
    · refine ps_retN.imp fun σ H D q => ?_
      obtain ⟨F, M, env, R, N, q⟩ := q
      simp only [wS] at q
      exact q F H .non (Same.refl _) R .non
    · cases h
  | .ite t a b, s, h => by
    simp only [chkS] at h
    split at h
    · simp only [Bool.and_eq_true] at h
      refine (ps_if (soundX t X W _ ok tk h.1.1) (soundSs a _ h.1.2) (soundSs b _ h.2)).imp fun σ H D q => ?_
      obtain ⟨F, M, env, R, N, q⟩ := q
      simp only [wS] at q
      refine ⟨F, M, env, R, N, wT_mono ok.mono t q (fun k M1 z F1 H1 s1 R1 => ?_) fun x M1 z => OutP.xcE N x M1 z⟩
      cases k with
      | true => exact (if_pos rfl).mpr ⟨F1, M1, env, R1, N.mono s1, wSs_mono ok.mono a z (OutP.le s1)⟩
      | false => exact (if_neg Bool.false_ne_true).mpr ⟨F1, M1, env, R1, N.mono s1, wSs_mono ok.mono b z (OutP.le s1)⟩
    · cases h
  | .whl t b, s, h => by
    simp only [chkS] at h
    split at h
    · simp only [Bool.and_eq_true] at h
      refine (ps_while hp (soundX t X W _ ok tk h.1) (soundSs b _ h.2)).imp fun σ H D q => ?_
      obtain ⟨F, M, env, R, N, q⟩ := q
      simp only [wS] at q
      obtain ⟨n, q⟩ := q
      refine ⟨fun m σ' H' => ∃ F' M' env', Same F F' ∧ Rel X.K F' H' M' ∧ EnvR X.K F' env' σ' ∧ whlN (fun env M Q => wT C G t env M Q fun x M1 => (OutP X.K W F D).xc x env M1) (fun env M k => wSs C G b env M { (OutP X.K W F D) with nx := k }) (OutP X.K W F D).nx m env' M',
        ⟨n, F, M, env, Same.refl _, R, N, q⟩, ?_⟩
      rintro m σ1 H1 ⟨F1, M1, env1, s1, R1, N1, q1⟩
      cases m with
      | zero => exact q1.elim
      | succ m =>
        simp only [whlN] at q1
        refine ⟨F1, M1, env1, R1, N1, wT_mono ok.mono t q1 (fun k M2 z F2 H2 s2 R2 => ?_) fun x M1 z => OutP.xcE N1 x M1 ((OutP.le s1).xc _ _ _ z)⟩
        cases k with
        | true =>
          refine (if_pos rfl).mpr ⟨fun σ3 H3 => ∃ F3 M3 env3, Same F F3 ∧ Rel X.K F3 H3 M3 ∧ EnvR X.K F3 env3 σ3 ∧ whlN (fun env M Q => wT C G t env M Q fun x M1 => (OutP X.K W F D).xc x env M1) (fun env M k => wSs C G b env M { (OutP X.K W F D) with nx := k }) (OutP X.K W F D).nx m env3 M3,
            fun σ3 H3 h3 => ⟨m, Nat.lt_succ_self _, h3⟩, F2, M2, env1, R2, N1.mono s2, wSs_mono ok.mono b z ⟨fun env3 M3 z F3 H3 σ3 s3 R3 N3 => ?_, (OutP.le (W := W) (D := D) (s1.trans s2)).rt, (OutP.le (W := W) (D := D) (s1.trans s2)).xc⟩⟩
          exact ⟨F3, M3, env3, (s1.trans s2).trans s3, R3, N3, z⟩
        | false => exact (if_neg Bool.false_ne_true).mpr (z F2 H2 σ1 (s1.trans s2) R2 (N1.mono s2))
    · cases h
  | .for_ tg it b, s, h => by
    simp only [chkS] at h
    split at h
    · rename_i tg' it' body pos
      simp only [Bool.and_eq_true] at h
      obtain ⟨⟨h1, h2⟩, h3⟩ := h
      rw [← ok.N] at h2
      have hfo : ∀ x, foldedSetIterable it' X.env x = pure x := by
        intro x
        cases it with
        | seq a =>
          simp only [chkI, Bool.and_eq_true] at h1
          exact folded_ok h1.1 _ _
        | _ =>
          simp only [chkI] at h1
          split at h1
          · rfl
          · cases h1
      refine (ps_for hp ok.calm (soundI it X W tg' it' ok tk h1) (soundT ok.nd ok.calm hf tg tg' h2) (soundSs b _ h3) hfo).imp fun σ H De q => ?_
      obtain ⟨F, M, env, R, N, q⟩ := q
      simp only [wS] at q
      refine ⟨F, M, env, R, N, wI_mono ok.mono it q (fun l g M1 z F1 H1 J s1 R1 wk => ?_) fun x M1 z => OutP.xcE N x M1 z⟩
      generalize hstep : (fun (x : Z.D) env M k => bindT tg x env M fun env1 => wSs C G b env1 M { nx := k, rt := (OutP X.K W F De).rt, xc := (OutP X.K W F De).xc }) = step at z
      refine ⟨fun i m σ' H' => m = l.length - i ∧ i ≤ l.length ∧ ∃ F' M' env', Same F1 F' ∧ Rel X.K F' H' M' ∧ EnvR X.K F' env' σ' ∧ forL g step (OutP X.K W F De).nx (l.drop i) env' M', ⟨_, rfl, Nat.zero_le _, F1, M1, env, Same.refl _, R1, N.mono s1, by simpa using z⟩, ?_⟩
      rintro i m σ' H' ⟨rfl, hi', F', M', env', s', R', N', hc⟩
      by_cases hlt : i < l.length
      · have hd : l.drop i = l[i] :: l.drop (i + 1) := List.drop_eq_getElem_cons hlt
        rw [hd] at hc
        simp only [forL] at hc
        obtain ⟨hgd, hc⟩ := hc
        refine .inr ⟨wk.go F' H' M' i hlt s' R' hgd, fun σ2 H2 => ∃ F2 M2 env2, Same F1 F2 ∧ Rel X.K F2 H2 M2 ∧ EnvR X.K F2 env2 σ2 ∧ forL g step (OutP X.K W F De).nx (l.drop (i + 1)) env2 M2, fun σ2 H2 h2 => ⟨l.length - (i + 1), by omega, rfl, hlt, h2⟩, fun x H2 y => ?_⟩
        obtain ⟨F2, s2, R3, rx⟩ := wk.yld F' H' M' i l[i] (by simp [hlt]) s' R' hgd x H2 y
        subst hstep
        refine ⟨F2, M', env', l[i], R3, N'.mono s2, rx, bindT_mono tg hc fun env2 z2 σ2 N2 off => ?_⟩
        refine ⟨F2, M', env2, R3, N2, wSs_mono ok.mono b z2 ⟨fun env3 M3 z F3 H3 σ3 s3 R3 N3 => ?_, (OutP.le (W := W) (D := De) ((s1.trans s').trans s2)).rt, (OutP.le (W := W) (D := De) ((s1.trans s').trans s2)).xc⟩⟩
        exact ⟨F3, M3, env3, (s'.trans s2).trans s3, R3, N3, z⟩
      · have ei : i = l.length := by omega
        subst ei
        rw [List.drop_length] at hc
        simp only [forL] at hc
        obtain ⟨hgd, hc⟩ := hc
        exact .inl ⟨wk.stop F' H' M' s' R' hgd, hc F' H' σ' (s1.trans s') R' N'⟩
    · cases h
  | .pass, s, h => by
    simp only [chkS] at h
    have fin : ∀ σ H D, lS X.K W (wS C G .pass) D σ H → tNext D σ H := fun σ H D q => by
      obtain ⟨F, M, env, R, N, q⟩ := q
      simp only [wS] at q
      exact q F H σ (Same.refl _) R N
    split at h
    · exact ps_pass.imp fin
    · exact ps_doc.imp fin
    · cases h
  | .never, s, h => ps_never.imp fun σ H D q => by
    obtain ⟨F, M, env, R, N, q⟩ := q
    simp only [wS] at q
theorem soundSs : ∀ (ir : Sxs) (s : List Stmt), chkSs c X.env.scope ir s = true → PSs X s (lS X.K W (wSs C G ir))
  | .nil, s, h => by
    simp only [chkSs] at h
    split at h
    · refine pss_nil.imp fun σ H D q => ?_
      obtain ⟨F, M, env, R, N, q⟩ := q
      simp only [wSs] at q
      exact q F H σ (Same.refl _) R N
    · cases h
  | .cons s r, ss, h => by
    simp only [chkSs] at h
    split at h
    · simp only [Bool.and_eq_true] at h
      refine (pss_cons (soundS s _ h.1) (soundSs r _ h.2)).imp fun σ H D q => ?_
      obtain ⟨F, M, env, R, N, q⟩ := q
      simp only [wSs] at q
      refine ⟨F, M, env, R, N, wS_mono ok.mono s q ⟨fun env1 M1 z F1 H1 σ1 s1 R1 N1 => ?_, fun _ _ z => z, fun _ _ _ z => z⟩⟩
      exact ⟨F1, M1, env1, R1, N1, wSs_mono ok.mono r z (OutP.le s1)⟩
    · cases h
  | .gho r, ss, h => by
    simp only [chkSs] at h
    refine (soundSs r ss h).imp fun σ H D q => ?_
    obtain ⟨F, M, env, R, N, q⟩ := q
    simp only [wSs] at q
    obtain ⟨env1, M1, h1, h2, q⟩ := q
    obtain ⟨s2, R2⟩ := R.froz h1
    exact ⟨_, M1, env1, R2, FzE.ok R h1 h2 N, wSs_mono ok.mono r q (OutP.le s2)⟩
end
end
end
end Z

set_option Elab.async false
set_option linter.all false
set_option maxRecDepth 100000
set_option maxHeartbeats 2000000
/-! Z14: a table of defs. -/
namespace Z
open PySem PySem.Spec PyProof.Rows L2
/-! ### binding -/
theorem zip_lookup : ∀ {ps : List Str} {us : List Value}, us.length = ps.length → ∀ n ∈ ps, ((ps.zip us).lookup n).isSome = true
  | [], [], _, n, h => by cases h
  | [], _ :: _, h, _, _ => by simp at h
  | _ :: _, [], h, _, _ => by simp at h
  | p :: ps, u :: us, hl, n, h => by
    simp only [List.zip_cons_cons, List.lookup_cons]
    by_cases e : n = p
    · subst e; simp
    · have : (n == p) = false := by simpa using e
      rw [this]
      exact zip_lookup (by simpa using hl) n (by
        rcases List.mem_cons.mp h with h | h
        · exact absurd h e
        · exact h)
theorem zip_filterMap_aux : ∀ (ps : List Str) (us : List Value) (pre : List (Str × Value)), ps.Nodup → us.length = ps.length → (∀ n ∈ ps, pre.lookup n = none) →
    (ps.filterMap fun n => ((pre ++ ps.zip us).lookup n).map (n, ·)) = ps.zip us
  | [], _, _, _, _, _ => rfl
  | _ :: _, [], _, _, h, _ => by simp at h
  | p :: ps, u :: us, pre, nd, hl, hp => by
    rw [List.nodup_cons] at nd
    have e1 : (pre ++ (p :: ps).zip (u :: us)).lookup p = some u := by
      rw [List.lookup_append, hp p (by simp)]
      simp
    rw [List.filterMap_cons, e1]
    simp only [Option.map_some, List.zip_cons_cons]
    congr 1
    have ih := zip_filterMap_aux ps us (pre ++ [(p, u)]) nd.2 (by simpa using hl) fun n hn => by
      rw [List.lookup_append, hp n (List.mem_cons_of_mem _ hn)]
      have : (n == p) = false := by
        have : n ≠ p := fun e => nd.1 (e ▸ hn)
        simpa using this
      simp [List.lookup_cons, this]
    rw [List.append_assoc] at ih
    exact ih
theorem bind_gen {x qual : Str} {as : List Arg} {kd : List (Option Expr)} {body : List Stmt} {scope : Scope} {kV doc pm : Value} {an : Option Addr} {cdv ct : Value} {us : List Value} (nd : (as.map (·.arg)).Nodup) (hl : us.length = (as.map (·.arg)).length) :
    bindArgs (PySem.W.fnOf x qual ⟨[], as, none, [], kd, none, []⟩ body scope .none kV doc pm an cdv ct) ⟨us, []⟩ = pure ((as.map (·.arg)).zip us) := by
  have e0 : seqItems? .none = pure none := rfl
  have e1 : (List.filter (fun n => (List.lookup n ((as.map (·.arg)).zip us)).isNone) (as.map (·.arg))) = [] := by
    rw [List.filter_eq_nil_iff]
    intro n hn
    have := zip_lookup hl n hn
    rw [Option.isSome_iff_ne_none] at this
    simpa using this
  have e2 := zip_filterMap_aux (as.map (·.arg)) us [] nd hl fun _ _ => rfl
  rw [List.nil_append] at e2
  unfold bindArgs
  simp only [PySem.W.fnOf, List.map_nil, List.nil_append, List.append_nil, e0, pure_bind, List.forIn_nil, Option.getD_none, List.drop_nil, List.length_nil, Nat.sub_zero, List.take_length, e1, List.isEmpty_nil, Bool.not_true, Bool.false_eq_true, if_false, List.zip_nil_right, hl, Nat.lt_irrefl, decide_false, Bool.false_and, gt_iff_lt]
  simp [e1, e2, List.take_of_length_le]
/-! ### the table -/
/-- a row: the def's name, its IR, its text -/
structure Row where
  f : Str
  d : Df
  a : Arguments
  b : List Stmt
  s : Scope
def Row.dd (r : Row) : He.DefD := ⟨(r.f, none), r.f, r.f, r.a, r.b, r.s, [], []⟩
def tabOf (R : List Row) : Tab := R.map fun r => (r.f, r.d)
def fnsOf (R : List Row) : List (Str × Nat) := R.map fun r => (r.f, r.d.ps.length)
def argB (ps : List Str) : Arguments → Bool
  | ⟨[], as, none, [], _, none, []⟩ => decide (as.map (·.arg) = ps)
  | _ => false
def locB (sc : Scope) (x : Str) : Bool := match sc.names.lookup x with
  | some .local => true
  | some .cell => true
  | _ => false
def nofreeB (k : NameKind) : Bool := match k with
  | .free => false
  | _ => true
def funB (sc : Scope) : Bool := match sc.kind with
  | .function => true
  | _ => false
def scB (N ps : List Str) (sc : Scope) : Bool := funB sc && !sc.isCoroutine && !sc.isGenerator && decide N.Nodup && decide (N.take ps.length = ps) && ps.all (locB sc) && sc.names.all fun y => nofreeB y.2
def chkRow (fns : List (Str × Nat)) (gls free : List Str) (r : Row) : Bool := argB r.d.ps r.a && scB r.d.N r.d.ps r.s && chkSs ⟨r.d.N, fns, gls, free⟩ r.s r.d.body r.b
theorem scB_ok {N ps : List Str} {sc : Scope} (h : scB N ps sc = true) : FnScope N ps sc := by
  simp only [scB, Bool.and_eq_true, Bool.not_eq_true', decide_eq_true_eq, List.all_eq_true] at h
  obtain ⟨⟨⟨⟨⟨⟨h1, h2⟩, h3⟩, h4⟩, h5⟩, h6⟩, h7⟩ := h
  refine ⟨?_, h2, h3, h4, h5, fun x hx => ?_, fun y hy e => ?_⟩
  · unfold funB at h1; split at h1
    · assumption
    · cases h1
  · have := h6 x hx
    unfold locB at this
    split at this
    · rename_i e; exact .inl e
    · rename_i e; exact .inr e
    · cases this
  · have := h7 y hy
    rw [e] at this
    simp [nofreeB] at this
theorem fns_lookup {R : List Row} {f : Str} {m : Nat} (h : (fnsOf R).lookup f = some m) : ∃ r ∈ R, r.f = f ∧ r.d.ps.length = m ∧ (tabOf R).lookup f = some r.d := by
  induction R with
  | nil => simp [fnsOf] at h
  | cons r R ih =>
    simp only [fnsOf, tabOf, List.map_cons, List.lookup_cons] at h ⊢
    split at h
    · rename_i e
      cases h
      exact ⟨r, by simp, (eq_of_beq e).symm, rfl, rfl⟩
    · rename_i e
      obtain ⟨r', h1, h2, h3, h4⟩ := ih h
      exact ⟨r', List.mem_cons_of_mem _ h1, h2, h3, h4⟩
theorem start_env {K : PySem.W.Frag} {F : Hp} {ds : List D} {vs : List V} (r : DRs K F ds vs) (N : List Str) : EnvR K F (startD N ds) (L2.start N vs) := by
  have hl := r.length
  refine ⟨by simp [startD, L2.start, hl], fun i d e => ?_⟩
  unfold startD at e
  have hi : i < ds.length := by
    by_cases hi : i < ds.length
    · exact hi
    · rw [List.getElem?_append_right (by simpa using hi), List.getElem?_replicate] at e
      split at e <;> cases e
  rw [List.getElem?_append_left (by simpa using hi), List.getElem?_map] at e
  cases e1 : ds[i]? with
  | none => rw [e1] at e; cases e
  | some d' =>
    rw [e1] at e
    simp only [Option.map_some, Option.some.injEq] at e
    subst e
    obtain ⟨v, h1, h2⟩ := r.get e1
    refine ⟨v, ?_, h2⟩
    unfold L2.start
    rw [List.getElem?_append_left (by simp [← hl]; exact hi), List.getElem?_map, h1]
    rfl
section
variable {P : Program} {w : World} {K : PySem.W.Frag} {mg : Str → Option Value} {base : Heap} {R : List Row} {G : Str → Option D} {gls free : List Str}
theorem tab_ok (hc : ∀ r ∈ R, chkRow (fnsOf R) gls free r = true) (hT : ∀ r ∈ R, (tabOf R).lookup r.f = some r.d)
    (hF : ∀ r ∈ R, mg r.f = some (.ref (He.ga K r.f)) ∧ ∃ fd, FunD K r.f r.f r.a r.b r.s [] [] (He.ga K r.f) fd) (hfree : ∀ x ∈ free, mg x = none)
    (hgl : ∀ x ∈ gls, ∀ d, G x = some d → (∃ u v, mg x = some u ∧ L2.RelV v u ∧ ∀ F, DR K F d v) ∨ ∃ n, d = .ty n ∧ mg x = none ∧ bootBuiltins x = some (.type n)) :
    ∀ (n : Nat) (r : Row) (fd : FuncData), r ∈ R → FunD K r.f r.f r.a r.b r.s [] [] (He.ga K r.f) fd → FnOk P w K mg base (L2.CX P w) n (He.ga K r.f) fd r.d.ps (spC K (callN (tabOf R) G n) r.f)
  | 0, r, fd, hr, F => ⟨fun vs H Q E h => by
      obtain ⟨_, _, _, _, _, h⟩ := h
      exact h.elim, fun A outer s H args us vs Q E _ _ _ _ h => by
      obtain ⟨_, _, _, _, _, h⟩ := h
      exact h.elim⟩
  | n + 1, r, fd, hr, F => by
    have hcr := hc r hr
    simp only [chkRow, Bool.and_eq_true] at hcr
    obtain ⟨⟨ha, hs⟩, hb⟩ := hcr
    have S := scB_ok hs
    refine F.ok S (fun vs H Q E h => ?_) fun cdv A outer s H vs Q E hr' h => ?_
    · obtain ⟨F', M, ds, _, rs, h⟩ := h
      simp only [callN, hT r hr] at h
      rw [← rs.length]; exact h.1
    · obtain ⟨F', M, ds, Rl, rs, h⟩ := h
      simp only [callN, hT r hr] at h
      obtain ⟨hlen, h⟩ := h
      have hu := hr'.un
      have ok : ZOk (cxOf (L2.CX P w) P w K mg base r.d.N r.f r.s (He.ga K r.f) cdv A outer s H E) (callN (tabOf R) G n) G ⟨r.d.N, fnsOf R, gls, free⟩ := by
        refine ⟨fun f ds M Q Q' E E' => callN_mono n f ds M Q Q' E E', rfl, rfl, S.nd, ?_, fun f m hm => ?_, hfree, hgl⟩
        · show (A.deeper _).units + 65 < cLine
          omega
        · obtain ⟨r', hr1, rfl, hm1, _⟩ := fns_lookup hm
          obtain ⟨g1, fd', F1⟩ := hF r' hr1
          have hcr' := hc r' hr1
          simp only [chkRow, Bool.and_eq_true] at hcr'
          refine ⟨He.ga K r'.f, fd', r'.d.ps, n, hm1, g1, F1.kp, ?_, hr', tab_ok hc hT hF hfree hgl n r' fd' hr1 F1⟩
          have hab := hcr'.1.1
          unfold argB at hab
          split at hab
          · rename_i as kd e
            simp only [decide_eq_true_eq] at hab
            rw [e] at F1
            have S' := scB_ok hcr'.1.2
            have nd : r'.d.ps.Nodup := by rw [← S'.pre]; exact S'.nd.sublist (List.take_sublist _ _)
            refine F1.bindsN fun kV doc pm an cdv ct us hl => ?_
            rw [← hab] at hl nd ⊢
            exact bind_gen nd hl
          · cases hab
      refine ⟨lS K (fun cls d _ H => E cls d H) (wSs (callN (tabOf R) G n) G r.d.body), ?_, ?_⟩
      · exact soundSs (W := fun cls d _ H => E cls d H) ok (takes_of rfl rfl rfl rfl) S.kind (passes_of rfl) (fun _ _ => rfl) r.d.body r.b hb
      · refine ⟨F', M, startD r.d.N ds, Rl, start_env rs _, wSs_mono ok.mono _ h ⟨fun env M1 z F1 H1 σ1 s1 R1 N1 => z F1 H1 .non s1 R1 .non, fun d M z => z, fun x env M z F1 H1 σ1 cls d s1 R1 N1 xr => z F1 H1 cls d s1 R1 xr⟩⟩
end
/-! ### the law's end -/
def noM : MM := fun _ => none
theorem law_sp {K : PySem.W.Frag} {T : Tab} {G : Str → Option D} {n : Nat} {ns : List Int} {f : Str} (h : callN T G n f [.scr ns] noM (fun d _ => d = .bl true) fun _ _ => False) {H : Hp} {a : Addr} (hS : SqL K H a (ns.map V.int)) :
    spC K (callN T G n) f [.ref a] H (fun v _ => v = .bl true) fun _ _ _ => False :=
  ⟨H, noM, [.scr ns], ⟨Same.refl _, fun _ _ e => by cases e⟩, .cons (.scr hS) .nil, callN_mono n f _ _ _ _ _ _ h (fun d M e F' H' v s1 R1 r1 => by subst e; cases r1; rfl) fun x M z => z.elim⟩
end Z

set_option Elab.async false
set_option linter.all false
set_option maxRecDepth 100000
set_option maxHeartbeats 2000000
/-! Z15: a law's end. -/
namespace Z
open PySem PySem.Spec PyProof.Rows L2
/-- what a call may let out, whatever the world -/
def CXe (P : Program) : CXT := fun o H s E u s' => ∃ w, L2.CX P w o H s E u s'
theorem cxe_no (P : Program) (H : Hp) (s : Shared) (e : Value) (s' : Shared) : CXe P [] H s (fun _ _ _ => False) e s' → False := by
  rintro ⟨w, a, B, H', cls, d, _, _, _, _, _, _, _, z⟩
  exact z
theorem FnOk.cx {P : Program} {w : World} {K : PySem.W.Frag} {mg : Str → Option Value} {base : Heap} {CX CX' : CXT} {k : Nat} {f : Addr} {fd : FuncData} {ps : List Str} {sp : Sp} (F : FnOk P w K mg base CX k f fd ps sp)
    (h : ∀ o H s E u s', CX o H s E u s' → CX' o H s E u s') : FnOk P w K mg base CX' k f fd ps sp :=
  ⟨F.len, fun A outer s H args us vs Q E hr e0 hb r hsp => codeAny_mono (F.run A outer s H args us vs Q E hr e0 hb r hsp) fun r s' q => by
    cases r with
    | ok v => cases v <;> exact q
    | error e => exact h _ _ _ _ _ _ q⟩
/-- what the head tells of constants -/
def glFa (fa : List He.Fa) (free : List Str) (G : Str → Option D) (x : Str) : Bool := match G x with
  | some (.ty n) => decide (x ∈ free) && decide (bootBuiltins x = some (.type n))
  | some (.int i) => fa.any fun f => match f with
    | .int y j => decide (x = y) && decide (i = j)
    | _ => false
  | some (.str z) => fa.any fun f => match f with
    | .str y w => decide (x = y) && decide (z = w)
    | _ => false
  | some _ => false
  | none => true
theorem facts {P : Program} {w : World} {K : PySem.W.Frag} {h : Heap} {mg : Str → Option Value} {f : Addr} {R : List Z.Row} {G : Str → Option D} {gls free : List Str} {fa : List He.Fa} {p : Str} (X : K.In h) (GN : h.Ns mainGlobals mg)
    (hfa : mg ("law" : Str) = some (.ref f)) (c : He.SaysD fa (R.map Z.Row.dd) K) (hc : (R.all (chkRow (fnsOf R) gls free)) = true) (hT : ∀ r ∈ R, (tabOf R).lookup r.f = some r.d) (hg : ∀ r ∈ R, He.Fa.glo r.f ∈ fa) (hfr : ∀ x ∈ free, He.Fa.free x ∈ fa)
    (hgl : (gls.all (glFa fa free G)) = true) {r : Z.Row} (hr : r ∈ R) (hf : r.f = "law") (hps : r.d.ps = [p]) (n : Nat) :
    ∃ fd : FuncData, (∀ (s : Shared) (v : Value), BindsTo s fd ⟨[v], []⟩ [(p, v)]) ∧ ∀ base : Heap, K.In base → base.Ns mainGlobals mg → FnOk P w K mg base (CXe P) n f fd [p] (spC K (callN (tabOf R) G n) "law") := by
  have fact : ∀ {a : He.Fa}, a ∈ fa → a.ok K = true := fun {a} ha => by
    obtain ⟨i, hi⟩ := List.getElem?_of_mem ha
    exact c.fact i hi
  have defs : ∀ r ∈ R, ∃ fd, FunD K r.f r.f r.a r.b r.s [] [] (He.ga K r.f) fd := fun r hr => by
    obtain ⟨i, hi⟩ := List.getElem?_of_mem hr
    obtain ⟨fd, F⟩ := c.def_ i (d := r.dd) (by rw [List.getElem?_map, hi]; rfl)
    exact ⟨fd, F⟩
  have hc' := List.all_eq_true.mp hc
  have hF : ∀ r ∈ R, mg r.f = some (.ref (He.ga K r.f)) ∧ ∃ fd, FunD K r.f r.f r.a r.b r.s [] [] (He.ga K r.f) fd := fun r hr => ⟨He.glo_ok X GN (fact (hg r hr)), defs r hr⟩
  have hfree : ∀ x ∈ free, mg x = none := fun x hx => He.free_ok X GN (fact (hfr x hx))
  have hgls : ∀ x ∈ gls, ∀ d, G x = some d → (∃ u v, mg x = some u ∧ L2.RelV v u ∧ ∀ F, DR K F d v) ∨ ∃ n, d = .ty n ∧ mg x = none ∧ bootBuiltins x = some (.type n) := fun x hx d hd => by
    have h1 := List.all_eq_true.mp hgl x hx
    unfold glFa at h1
    rw [hd] at h1
    cases d with
    | ty n =>
      simp only [Bool.and_eq_true, decide_eq_true_eq] at h1
      exact .inr ⟨n, rfl, hfree x h1.1, h1.2⟩
    | int i =>
      obtain ⟨a, ha, h2⟩ := List.any_eq_true.mp h1
      cases a with
      | int y j =>
        simp only [Bool.and_eq_true, decide_eq_true_eq] at h2
        obtain ⟨rfl, rfl⟩ := h2
        obtain ⟨t, ht⟩ := He.int_ok X GN (fact ha)
        exact .inl ⟨_, .int i, ht, ⟨t, rfl⟩, fun F => .int i⟩
      | _ => simp at h2
    | str i =>
      obtain ⟨a, ha, h2⟩ := List.any_eq_true.mp h1
      cases a with
      | str y j =>
        simp only [Bool.and_eq_true, decide_eq_true_eq] at h2
        obtain ⟨rfl, rfl⟩ := h2
        obtain ⟨t, ht⟩ := He.str_ok X GN (fact ha)
        exact .inl ⟨_, .str i, ht, ⟨t, rfl⟩, fun F => .str i⟩
      | _ => simp at h2
    | _ => simp at h1
  obtain ⟨g1, fd, F⟩ := hF r hr
  have e : f = He.ga K r.f := by
    rw [hf] at g1 ⊢
    have := hfa.symm.trans g1
    cases this
    rfl
  subst e
  have hcr := hc' r hr
  simp only [chkRow, Bool.and_eq_true] at hcr
  refine ⟨fd, ?_, fun base _ _ => ?_⟩
  · have hab := hcr.1.1
    unfold argB at hab
    split at hab
    · rename_i as kd e
      simp only [decide_eq_true_eq] at hab
      have F1 := F
      rw [e] at F1
      have S' := scB_ok hcr.1.2
      have nd : r.d.ps.Nodup := by rw [← S'.pre]; exact S'.nd.sublist (List.take_sublist _ _)
      have b := FunD.bindsA (ps := r.d.ps) F1 fun kV doc pm an cdv ct us hl => by
        rw [← hab] at hl nd ⊢
        exact bind_gen nd hl
      rw [hps] at b
      exact fun s v => b s [v] rfl
    · cases hab
  · have := tab_ok (P := P) (w := w) (base := base) hc' hT hF hfree hgls n r fd hr F
    rw [hps, hf] at this
    rw [hf]
    exact Z.FnOk.cx this fun o H s E u s' z => ⟨w, z⟩
end Z

set_option Elab.async false
set_option linter.all false
set_option maxRecDepth 100000
set_option maxHeartbeats 2000000
/-! Z16: rules to show what a def's IR does. -/
namespace Z
open PySem PySem.Spec PyProof.Rows L2
abbrev nX : XQ := fun _ _ => False
section
variable {T : Tab} {G : Str → Option D} {n c : Nat} {f : Str} {ds : List D} {M : MM} {Q : PQ} {E : XQ}
theorem call_def {d : Df} (hl : T.lookup f = some d) (h : wDf (callN T G n) G d ds M Q E) : callN T G (n + 1) f ds M Q E := by
  simp only [callN, hl]
  exact h
theorem call_use {R : PQ} (h : callN T G c f ds M R nX) (hn : c ≤ n) (q : ∀ d M', R d M' → Q d M') : callN T G n f ds M Q E :=
  callN_mono n _ _ _ _ _ _ _ (callN_le hn h) q fun x M z => z.elim
end
section
variable {C : CallSem} {G : Str → Option D}
theorem seq_abs {s : Sx} {r : Sxs} {env : Env} {M : MM} {D : Post} (h : ∀ K : Env → MM → Prop, (∀ e m, wSs C G r e m D → K e m) → wS C G s env M { nx := K, rt := D.rt, xc := D.xc }) : wSs C G (.cons s r) env M D := by
  simp only [wSs]
  exact h _ fun _ _ z => z
theorem seq_nil {env : Env} {M : MM} {D : Post} (h : D.nx env M) : wSs C G .nil env M D := by
  simp only [wSs]
  exact h
theorem for_rule (hC : CMono C) {tg : Tg} {it : It} {b : Sxs} {env : Env} {M : MM} {D : Post}
    (h : wI C G it env M (fun l g M1 => ∃ I : Nat → Env → MM → Prop, I 0 env M1 ∧ (∀ i x e m, l[i]? = some x → I i e m → g m ∧ bindT tg x e m fun e1 => wSs C G b e1 m { nx := I (i + 1), rt := D.rt, xc := D.xc }) ∧ ∀ e m, I l.length e m → g m ∧ D.nx e m) (fun x M1 => D.xc x env M1)) :
    wS C G (.for_ tg it b) env M D := by
  simp only [wS]
  refine wI_mono hC it h (fun l g M1 z => ?_) fun _ _ z => z
  obtain ⟨I, h0, hs, he⟩ := z
  suffices ∀ k i e m, k = l.length - i → i ≤ l.length → I i e m → forL g (fun x env M k => bindT tg x env M fun env1 => wSs C G b env1 M { D with nx := k }) D.nx (l.drop i) e m by
    have := this _ 0 env M1 rfl (Nat.zero_le _) h0
    simpa using this
  intro k
  induction k with
  | zero =>
    intro i e m hk hi hI
    have : i = l.length := by omega
    subst this
    rw [List.drop_length]
    exact he e m hI
  | succ k ih =>
    intro i e m hk hi hI
    have hlt : i < l.length := by omega
    rw [List.drop_eq_getElem_cons hlt]
    obtain ⟨h1, h2⟩ := hs i l[i] e m (by simp [hlt]) hI
    exact ⟨h1, bindT_mono tg h2 fun e1 z => wSs_mono hC b z ⟨fun e2 m2 z => ih (i + 1) e2 m2 (by omega) (by omega) z, fun _ _ z => z, fun _ _ _ z => z⟩⟩
theorem whl_rule (hC : CMono C) {t : Tx} {b : Sxs} {env : Env} {M : MM} {D : Post} (I : Nat → Env → MM → Prop) (h0 : ∃ k, I k env M)
    (hs : ∀ k e m, I k e m → wT C G t e m (fun b' m1 => match b' with
      | true => wSs C G b e m1 { nx := fun e m => ∃ j, j < k ∧ I j e m, rt := D.rt, xc := D.xc }
      | false => D.nx e m1) (fun x M1 => D.xc x e M1)) : wS C G (.whl t b) env M D := by
  simp only [wS]
  obtain ⟨k, h0⟩ := h0
  suffices ∀ n k e m, k < n → I k e m → whlN (fun env M Q => wT C G t env M Q (fun x M1 => D.xc x env M1)) (fun env M k => wSs C G b env M { D with nx := k }) D.nx n e m from ⟨k + 1, this (k + 1) k env M (Nat.lt_succ_self _) h0⟩
  intro n
  induction n with
  | zero => intro k e m h; omega
  | succ n ih =>
    intro k e m hk hI
    simp only [whlN]
    refine wT_mono hC t (hs k e m hI) (fun b' m1 z => ?_) fun _ _ z => z
    cases b' with
    | true => exact wSs_mono hC b z ⟨fun e2 m2 ⟨j, h1, h2⟩ => ih j e2 m2 (by omega) h2, fun _ _ z => z, fun _ _ _ z => z⟩
    | false => exact z
theorem comp_inv (hC : CMono C) {k : Bool} {elt : Ex} {tg : Tg} {it : It} {ifs : Txs} {env : Env} {M : MM} {Q : PQ} {E : XQ}
    (h : wI C G it env M (fun l g M1 => l.length ≤ sizeLine ∧ ∀ p, M1 p = none → ∃ I : Nat → List D → MM → Prop, I 0 [] (put M1 p (.lst [])) ∧ (∀ i acc m, I i acc m → g m ∧ m p = some (.lst acc) ∧ acc.length ≤ i) ∧
      (∀ i x acc m, l[i]? = some x → I i acc m → bindT tg x (wipeD env (tgSlots tg)) m fun e => wIfs C G ifs e m fun b m3 => match b with
        | true => wE C G elt e m3 (fun d m4 => m4 p = some (.lst acc) ∧ I (i + 1) (acc ++ [d]) (put m4 p (.lst (acc ++ [d])))) nX
        | false => I (i + 1) acc m3) ∧ ∀ acc m, I l.length acc m → match k with
          | true => Q (.cell p) m
          | false => Q (.lst acc) (del m p)) E) : wE C G (.comp k elt tg it ifs) env M Q E := by
  simp only [wE]
  refine wI_mono hC it h (fun l g M1 z p hp => ?_) fun _ _ z => z
  obtain ⟨hsz, z⟩ := z
  obtain ⟨I, h0, hg, hs, he⟩ := z p hp
  suffices ∀ (step : D → MM → (Option D → MM → Prop) → Prop) (done : List D → MM → Prop), (∀ acc m, I l.length acc m → done acc m) → step = (fun x M2 kk => bindT tg x (wipeD env (tgSlots tg)) M2 fun env2 => wIfs C G ifs env2 M2 fun b M3 => match b with
        | true => wE C G elt env2 M3 (fun d M4 => kk (some d) M4) (fun _ _ => False)
        | false => kk none M3) → ∀ k' i acc m, k' = l.length - i → i ≤ l.length → I i acc m → compL g step p done (l.drop i) acc m by
    have := this _ _ he rfl _ 0 [] _ rfl (Nat.zero_le _) h0
    rw [List.drop_zero] at this
    exact this
  clear he
  rintro step done he rfl
  intro k'
  induction k' with
  | zero =>
    intro i acc m hk hi hI
    have : i = l.length := by omega
    subst this
    rw [List.drop_length]
    obtain ⟨g1, g2, _⟩ := hg _ _ _ hI
    exact ⟨g1, g2, he acc m hI⟩
  | succ k' ih =>
    intro i acc m hk hi hI
    have hlt : i < l.length := by omega
    rw [List.drop_eq_getElem_cons hlt]
    obtain ⟨g1, g2, g3⟩ := hg _ _ _ hI
    refine ⟨g1, bindT_mono tg (hs i l[i] acc m (by simp [hlt]) hI) fun e z => wIfs_mono hC ifs z fun b m3 z => ?_⟩
    cases b with
    | true => exact wE_mono hC elt z (fun d m4 z => ⟨z.1, by omega, ih (i + 1) _ _ (by omega) (by omega) z.2⟩) fun _ _ z => z
    | false => exact ih (i + 1) acc m3 (by omega) (by omega) z
theorem comp_tree (hC : CMono C) {elt : Ex} {tg : Tg} {it : It} {ifs : Txs} {env : Env} {M : MM} {Q : PQ} {E : XQ}
    (h : wI C G it env M (fun l g M1 => ∃ (P : D → Bool) (f : D → D), l.length ≤ sizeLine ∧ (∀ M2, MSub M1 M2 → g M2) ∧ (∀ x, x ∈ l → ∀ M2, MSub M1 M2 → bindT tg x (wipeD env (tgSlots tg)) M2 fun e => wIfs C G ifs e M2 fun b M3 => b = P x ∧ M3 = M2 ∧
      (b = true → wE C G elt e M3 (fun d M4 => d = f x ∧ M4 = M2) nX)) ∧ Q (.lst ((l.filter P).map f)) M1) E) : wE C G (.comp false elt tg it ifs) env M Q E := by
  refine comp_inv hC (wI_mono hC it h (fun l g M1 z => ?_) fun _ _ z => z)
  obtain ⟨P, f, hsz, hg, hs, hq⟩ := z
  refine ⟨hsz, fun p hp => ⟨fun i acc m => i ≤ l.length ∧ acc = ((l.take i).filter P).map f ∧ m = put M1 p (.lst acc), ⟨Nat.zero_le _, by simp, rfl⟩, ?_, ?_, ?_⟩⟩
  · rintro i acc m ⟨hi, rfl, rfl⟩
    refine ⟨hg _ (MSub.put hp), put_same, ?_⟩
    rw [List.length_map]
    exact Nat.le_trans (List.length_filter_le _ _) (by simp; omega)
  · rintro i x acc m hx ⟨hi, rfl, rfl⟩
    have hlt : i < l.length := by
      rcases Nat.lt_or_ge i l.length with h | h
      · exact h
      · rw [List.getElem?_eq_none h] at hx; cases hx
    have ht : l.take (i + 1) = l.take i ++ [x] := by
      rw [List.take_add_one, hx]; rfl
    refine bindT_mono tg (hs x (List.mem_of_getElem? hx) _ (MSub.put hp)) fun e z => wIfs_mono hC ifs z fun b m3 z => ?_
    obtain ⟨hb, rfl, z⟩ := z
    cases b with
    | true =>
      refine wE_mono hC elt (z rfl) (fun d m4 z => ?_) fun _ _ z => z
      obtain ⟨rfl, rfl⟩ := z
      refine ⟨put_same, by omega, ?_, by rw [put_put]⟩
      rw [ht, List.filter_append, List.map_append]
      simp [← hb]
    | false =>
      refine ⟨by omega, ?_, rfl⟩
      rw [ht, List.filter_append, List.map_append]
      simp [← hb]
  · rintro acc m ⟨_, rfl, rfl⟩
    show Q _ _
    rw [del_put hp, List.take_length]
    exact hq
end
/-! ### operations on known shapes -/
section
variable {M : MM} {Q : PQ} {l : List D} {a : Addr}
theorem lenW_lst : lenW (.lst l) M Q = Q (.int l.length) M := by
  simp [lenW, seqOf, dctOf]
theorem lenW_tup : lenW (.tup l) M Q = Q (.int l.length) M := by
  simp [lenW, seqOf, dctOf]
theorem lenW_scr {l : List Int} : lenW (.scr l) M Q = Q (.int l.length) M := by
  simp [lenW, seqOf, dctOf]
theorem lenW_cell (h : M a = some (.lst l)) : lenW (.cell a) M Q = Q (.int l.length) M := by
  simp [lenW, seqOf, dctOf, h]
theorem idxW_lst {i : Int} : idxW (.lst l) (.int i) M Q = ∃ r, ixD l i = some r ∧ Q r M := by
  simp [idxW, seqOf, dLook, dctOf, dttOf]
theorem idxW_tup {i : Int} : idxW (.tup l) (.int i) M Q = ∃ r, ixD l i = some r ∧ Q r M := by
  simp [idxW, seqOf, dLook, dctOf, dttOf]
theorem idxW_cell (h : M a = some (.lst l)) {i : Int} : idxW (.cell a) (.int i) M Q = ∃ r, ixD l i = some r ∧ Q r M := by
  simp [idxW, seqOf, dLook, dctOf, dttOf, h]
theorem idxW_dct (kvs : List (Key × D)) (h : M a = some (.dK kvs)) {k : D} {key : Key} (hk : keyOf k = some key) : idxW (.cell a) k M Q = ∃ r, dGet kvs key = some r ∧ Q r M := by
  cases k <;> simp [keyOf] at hk <;> subst hk <;> simp [idxW, seqOf, dLook, dctOf, dttOf, h, keyOf]
theorem ixD_nat {i : Nat} : ixD l (i : Int) = l[i]? := by
  unfold ixD atI ixN
  by_cases h : i < l.length
  · simp [h]
  · simp [h]
theorem ixD_of {i : Int} (h : 0 ≤ i) : ixD l i = l[i.toNat]? := by
  obtain ⟨n, rfl⟩ := Int.eq_ofNat_of_zero_le h
  exact ixD_nat
theorem idx_fst {x y : D} : idxW (.tup [x, y]) (.int 0) M Q = Q x M := by
  rw [idxW_tup]
  have : ixD [x, y] 0 = some x := rfl
  simp [this]
theorem idx_snd {x y : D} : idxW (.tup [x, y]) (.int 1) M Q = Q y M := by
  rw [idxW_tup]
  have : ixD [x, y] 1 = some y := rfl
  simp [this]
theorem in_ints {b : Bool} {i : Int} {y : D} {ns : List Int} (h : seqOf M y = some (ns.map D.int)) (q : Q (.bl (b ^^ decide (i ∈ ns))) M) : inW b (.int i) y M Q :=
  .inr (.inl ⟨i, _, ns, rfl, h, intsOf_map ns, q⟩)
end
/-! ### data with a Lean type -/
class Tr (α : Type) [DecidableEq α] extends PySem.W.Datum α where
  tr : α → D
  py : ∀ c a, pyOf c (tr a) = some (PySem.W.Datum.toD a)
  lay : ∀ a : α, (PySem.W.Datum.toD a).canLay0 = true
theorem Tr.pyAll {α : Type} [DecidableEq α] [Tr α] (c : Addr → Option PyData) : ∀ xs : List α, Z.pyAll c (xs.map Tr.tr) = some (xs.map PySem.W.Datum.toD)
  | [] => rfl
  | x :: xs => by
    simp only [List.map_cons, Z.pyAll, Tr.py, Tr.pyAll c xs]
theorem Tr.layAll {α : Type} [DecidableEq α] [Tr α] : ∀ xs : List α, PyData.canLayAll0 (xs.map PySem.W.Datum.toD) = true
  | [] => rfl
  | x :: xs => by
    simp only [List.map_cons, PyData.canLayAll0, Tr.lay, Tr.layAll xs, Bool.and_self]
instance : Tr Int where
  tr := .int
  py c a := by simp only [pyOf]; rfl
  lay a := rfl
instance : Tr Bool where
  tr := .bl
  py c a := by simp only [pyOf]; rfl
  lay a := rfl
instance {α : Type} [DecidableEq α] [Tr α] : Tr (List α) where
  tr l := .lst (l.map Tr.tr)
  py c a := by simp only [pyOf, Tr.pyAll]; rfl
  lay a := by
    show PyData.canLay0 (.list _) = true
    simp only [PyData.canLay0]
    exact Tr.layAll a
instance {α : Type} [DecidableEq α] [Tr α] : Tr (PySem.W.Tup α) where
  tr l := .tup (l.items.map Tr.tr)
  py c a := by simp only [pyOf, Tr.pyAll]; rfl
  lay a := by
    show PyData.canLay0 (.tuple _) = true
    simp only [PyData.canLay0]
    exact Tr.layAll a.items
instance {α β : Type} [DecidableEq α] [DecidableEq β] [Tr α] [Tr β] : Tr (α × β) where
  tr p := .tup [Tr.tr p.1, Tr.tr p.2]
  py c a := by simp only [pyOf, Z.pyAll, Tr.py]; rfl
  lay a := by
    show PyData.canLay0 (.tuple [_, _]) = true
    simp only [PyData.canLay0, PyData.canLayAll0, Tr.lay, Bool.and_self]
theorem Tr.shaped {α : Type} [DecidableEq α] [Tr α] (hd : PySem.W.Datum.depth α ≤ 64) (a : α) : SeqAt.shaped (PySem.W.Datum.toD a) = true := by
  unfold SeqAt.shaped
  rw [Tr.lay, Bool.true_and, decide_eq_true_eq]
  exact Nat.le_trans (PySem.W.Datum.depth_le a) hd
theorem eqW_tr {α : Type} [DecidableEq α] [Tr α] (hd : PySem.W.Datum.depth α ≤ 64) {b : Bool} {x y : α} {M : MM} {Q : PQ} (q : Q (.bl (b ^^ decide (x = y))) M) : eqW b (Tr.tr x) (Tr.tr y) M Q := by
  have ex : ∀ c, pyOf c (Tr.tr x) = some (PySem.W.Datum.toD x) := fun c => Tr.py c x
  have ey : ∀ c, pyOf c (Tr.tr y) = some (PySem.W.Datum.toD y) := fun c => Tr.py c y
  have hx := Tr.shaped hd x
  have hy := Tr.shaped hd y
  have he := PySem.W.Datum.eqv x y
  generalize Tr.tr x = dx at ex ⊢
  generalize Tr.tr y = dy at ey ⊢
  generalize PySem.W.Datum.toD x = px at ex hx he
  generalize PySem.W.Datum.toD y = py at ey hy he
  rw [← he] at q
  unfold eqW
  split
  · have h1 := ex fun _ => none
    have h2 := ey fun _ => none
    simp only [pyOf, Option.some.injEq] at h1 h2
    subst h1; subst h2
    simpa only [PyData.eqv, PySem.W.beq_decide] using q
  · have h1 := ex fun _ => none
    have h2 := ey fun _ => none
    simp only [pyOf, Option.some.injEq] at h1 h2
    subst h1; subst h2
    simpa only [PyData.eqv, PySem.W.beq_decide] using q
  · have h1 := ex fun _ => none
    have h2 := ey fun _ => none
    simp only [pyOf, Option.some.injEq] at h1 h2
    subst h1; subst h2
    simpa only [PyData.eqv, PySem.W.beq_decide] using q
  · exact ⟨_, _, ex _, ey _, hx, hy, q⟩
/-- == of lists of ints -/
theorem eqW_ints {b : Bool} {x y : List Int} {M : MM} {Q : PQ} (q : Q (.bl (b ^^ decide (x = y))) M) : eqW b (.lst (x.map .int)) (.lst (y.map .int)) M Q := eqW_tr (α := List Int) (by decide) q
section
variable {M : MM} {Q : PQ} {b : Bool}
theorem eqW_int {i j : Int} : eqW b (.int i) (.int j) M Q = Q (.bl (b ^^ decide (i = j))) M := rfl
theorem eqW_bl {i j : Bool} : eqW b (.bl i) (.bl j) M Q = Q (.bl (b ^^ decide (i = j))) M := rfl
theorem eqW_str {i j : Str} : eqW b (.str i) (.str j) M Q = Q (.bl (b ^^ decide (i = j))) M := rfl
theorem newL_f {l : List D} : newL false l M Q = (l.length ≤ sizeLine ∧ Q (.lst l) M) := rfl
theorem newL_t {l : List D} : newL true l M Q = (l.length ≤ sizeLine ∧ ∀ p, M p = none → Q (.cell p) (put M p (.lst l))) := rfl
end
theorem msub_put2 {M m : MM} (s : MSub M m) (p : Addr) (o : Ob) : MSub (put M p o) (put m p o) := fun a u h => by
  unfold Z.put at h ⊢
  split at h
  · rename_i e; rw [if_pos e]; exact h
  · rename_i e; rw [if_neg e]; exact s _ _ h
/-- a fresh cell's object is changed -/
theorem msub_wr {M m : MM} (s : MSub M m) {q : Addr} (h : M q = none) (o : Ob) : MSub M (put m q o) := fun a u e => by
  rw [put_ne (by rintro rfl; rw [h] at e; cases e)]
  exact s _ _ e
theorem msub_pt {M m : MM} {p : Addr} {o : Ob} (s : MSub (put M p o) m) : m p = some o := s _ _ put_same
theorem msub_put3 {M m : MM} {p : Addr} {o : Ob} (s : MSub (put M p o) m) (u : Ob) : MSub (put M p u) (put m p u) := fun a w h => by
  by_cases e : a = p
  · subst e; rw [put_same] at h ⊢; exact h
  · rw [put_ne e] at h ⊢
    exact s _ _ (by rw [put_ne e]; exact h)
theorem fz_lst {M M' : MM} {q : Addr} {l : List D} (h : M q = some (.lst l)) (h' : M' q = none) : Fz M M' (.cell q) (.lst l) := .cellL h h' (Fzs.refl l)
theorem rangeL_get {lo : Int} {n i : Nat} {x : D} (h : (rangeL lo n)[i]? = some x) : i < n ∧ x = .int (lo + i) := by
  have hi : i < n := by
    have := (List.getElem?_eq_some_iff.mp h).1
    simpa [rangeL] using this
  refine ⟨hi, ?_⟩
  unfold rangeL at h
  rw [List.getElem?_map, List.getElem?_range hi] at h
  exact (Option.some.inj h).symm
theorem rangeL_mem {lo : Int} {n : Nat} {x : D} (h : x ∈ rangeL lo n) : ∃ i : Nat, i < n ∧ x = .int (lo + i) := by
  obtain ⟨i, hi⟩ := List.getElem?_of_mem h
  exact ⟨i, rangeL_get hi⟩
theorem rangeL_len {lo : Int} {n : Nat} : (rangeL lo n).length = n := by simp [rangeL]
theorem sz0 : (0 ≤ sizeLine) = True := eq_true (by decide)
theorem sz1 : (0 + 1 ≤ sizeLine) = True := eq_true (by decide)
theorem sz2 : (0 + 1 + 1 ≤ sizeLine) = True := eq_true (by decide)
theorem sz3 : (0 + 1 + 1 + 1 ≤ sizeLine) = True := eq_true (by decide)
theorem sz4 : (0 + 1 + 1 + 1 + 1 ≤ sizeLine) = True := eq_true (by decide)
theorem sz5 : (0 + 1 + 1 + 1 + 1 + 1 ≤ sizeLine) = True := eq_true (by decide)
theorem sz6 : (0 + 1 + 1 + 1 + 1 + 1 + 1 ≤ sizeLine) = True := eq_true (by decide)
theorem sz7 : (0 + 1 + 1 + 1 + 1 + 1 + 1 + 1 ≤ sizeLine) = True := eq_true (by decide)
theorem sz8 : (0 + 1 + 1 + 1 + 1 + 1 + 1 + 1 + 1 ≤ sizeLine) = True := eq_true (by decide)
theorem fdiv_c (k : Int) (h : 0 < k ∧ k < 1073741824) (i : Int) : CDiv i k = True := eq_true h
section
variable {C : CallSem} {G : Str → Option D}
/-- a comprehension over items of a type, nothing changed -/
theorem comp_map {α : Type} (tr : α → D) (hC : CMono C) {elt : Ex} {tg : Tg} {it : It} {ifs : Txs} {env : Env} {M : MM} {Q : PQ} {E : XQ}
    (h : wI C G it env M (fun l g M1 => ∃ (xs : List α) (P : α → Bool) (f : α → D), l = xs.map tr ∧ xs.length ≤ sizeLine ∧ (∀ M2, MSub M1 M2 → g M2) ∧ (∀ x, x ∈ xs → ∀ M2, MSub M1 M2 → bindT tg (tr x) (wipeD env (tgSlots tg)) M2 fun e => wIfs C G ifs e M2 fun b M3 => b = P x ∧ M3 = M2 ∧
      (b = true → wE C G elt e M3 (fun d M4 => d = f x ∧ M4 = M2) nX)) ∧ Q (.lst ((xs.filter P).map f)) M1) E) : wE C G (.comp false elt tg it ifs) env M Q E := by
  refine comp_inv hC (wI_mono hC it h (fun l g M1 z => ?_) fun _ _ z => z)
  obtain ⟨xs, P, f, rfl, hsz, hg, hs, hq⟩ := z
  refine ⟨by simpa using hsz, fun p hp => ⟨fun i acc m => i ≤ xs.length ∧ acc = ((xs.take i).filter P).map f ∧ m = put M1 p (.lst acc), ⟨Nat.zero_le _, by simp, rfl⟩, ?_, ?_, ?_⟩⟩
  · rintro i acc m ⟨hi, rfl, rfl⟩
    refine ⟨hg _ (MSub.put hp), put_same, ?_⟩
    rw [List.length_map]
    exact Nat.le_trans (List.length_filter_le _ _) (by simp; omega)
  · rintro i x acc m hx ⟨hi, rfl, rfl⟩
    rw [List.getElem?_map] at hx
    cases hy : xs[i]? with
    | none => rw [hy] at hx; cases hx
    | some y =>
      rw [hy] at hx
      cases hx
      have hlt : i < xs.length := (List.getElem?_eq_some_iff.mp hy).1
      have ht : xs.take (i + 1) = xs.take i ++ [y] := by
        rw [List.take_add_one, hy]; rfl
      refine bindT_mono tg (hs y (List.mem_of_getElem? hy) _ (MSub.put hp)) fun e z => wIfs_mono hC ifs z fun b m3 z => ?_
      obtain ⟨hb, rfl, z⟩ := z
      cases b with
      | true =>
        refine wE_mono hC elt (z rfl) (fun d m4 z => ?_) fun _ _ z => z
        obtain ⟨rfl, rfl⟩ := z
        refine ⟨put_same, by omega, ?_, by rw [put_put]⟩
        rw [ht, List.filter_append, List.map_append]
        simp [← hb]
      | false =>
        refine ⟨by omega, ?_, rfl⟩
        rw [ht, List.filter_append, List.map_append]
        simp [← hb]
  · rintro acc m ⟨_, rfl, rfl⟩
    show Q _ _
    rw [del_put hp, List.length_map, List.take_length]
    exact hq
end
theorem eqW_cellL {α : Type} [DecidableEq α] [Tr α] (hd : PySem.W.Datum.depth α ≤ 63) {b : Bool} {a : Addr} {xs ys : List α} {M : MM} {Q : PQ} (h : M a = some (.lst (xs.map Tr.tr))) (q : Q (.bl (b ^^ decide (xs = ys))) M) : eqW b (.cell a) (.lst (ys.map Tr.tr)) M Q := by
  have e1 : py M (.cell a) = some (PySem.W.Datum.toD xs) := by
    show pyCell M 8 a = _
    simp only [pyCell, h, Tr.pyAll]
    rfl
  have e2 : py M (.lst (ys.map Tr.tr)) = some (PySem.W.Datum.toD ys) := by
    show pyOf _ _ = _
    simp only [pyOf, Tr.pyAll]
    rfl
  have hs : PySem.W.Datum.depth (List α) ≤ 64 := Nat.succ_le_succ hd
  refine ⟨_, _, e1, e2, Tr.shaped hs xs, Tr.shaped hs ys, ?_⟩
  rw [PySem.W.Datum.eqv]
  exact q
theorem intsS_pair {x y : Int} {M : MM} {k : List Int → Prop} : intsS (.tup [.int x, .int y]) M k = k [x, y] := by
  simp [intsS, seqOf, intsOf]
theorem imin2 {x y : Int} : imin [x, y] = min x y := rfl
theorem imax2 {x y : Int} : imax [x, y] = max x y := rfl
theorem ne_nil2 {α : Type} {x : α} {l : List α} : (x :: l ≠ []) = True := by simp
theorem sorted_pairs {k : Bool} {us : List (Int × Int)} {M : MM} {Q : PQ} (h : newL k ((psort us).map pr) M Q) : sortedW k (.lst (us.map pr)) M Q := .inr ⟨_, us, rfl, pairsOf_map us, h⟩
theorem sorted_ints {k : Bool} {us : List Int} {M : MM} {Q : PQ} (h : newL k ((isort us).map .int) M Q) : sortedW k (.lst (us.map .int)) M Q := .inl ⟨_, us, rfl, intsOf_map us, h⟩
theorem getD_ints {o : List Int} {i : Int} (h0 : 0 ≤ i) (h1 : i < o.length) : ixD (o.map D.int) i = some (.int (o.getD i.toNat 0)) := by
  rw [ixD_of h0, List.getElem?_map]
  have : i.toNat < o.length := by omega
  simp [List.getD, this]
section
variable {M : MM} {Q : PQ}
theorem isi_int_int {i : Int} : isiW (.int i) (.ty "int") M Q = Q (.bl true) M := propext ⟨fun h => h.2, fun h => ⟨by decide, h⟩⟩
theorem isi_int_bool {i : Int} : isiW (.int i) (.ty "bool") M Q = Q (.bl false) M := propext ⟨fun h => h.2, fun h => ⟨by decide, h⟩⟩
theorem isi_bl_bool {i : Bool} : isiW (.bl i) (.ty "bool") M Q = Q (.bl true) M := propext ⟨fun h => h.2, fun h => ⟨by decide, h⟩⟩
theorem isi_bl_int {i : Bool} : isiW (.bl i) (.ty "int") M Q = Q (.bl true) M := propext ⟨fun h => h.2, fun h => ⟨by decide, h⟩⟩
theorem isi_lst_list {l : List D} : isiW (.lst l) (.ty "list") M Q = Q (.bl true) M := propext ⟨fun h => h.2, fun h => ⟨by decide, h⟩⟩
theorem isi_tup_list {l : List D} : isiW (.tup l) (.ty "list") M Q = Q (.bl false) M := propext ⟨fun h => h.2, fun h => ⟨by decide, h⟩⟩
theorem isi_tup_tuple {l : List D} : isiW (.tup l) (.ty "tuple") M Q = Q (.bl true) M := propext ⟨fun h => h.2, fun h => ⟨by decide, h⟩⟩
theorem isi_lst_tuple {l : List D} : isiW (.lst l) (.ty "tuple") M Q = Q (.bl false) M := propext ⟨fun h => h.2, fun h => ⟨by decide, h⟩⟩
theorem sset_self {ns : List Int} (h : ns.Pairwise (· < ·)) : sset ns = ns := by
  have nd : ns.Nodup := h.imp fun h e => by omega
  refine perm_sorted_eq ?_ (isort_ok (ded ns)).2 (h.imp fun h => by omega)
  exact (isort_ok (ded ns)).1.trans (perm_of_same (ded_nodup ns) nd fun x => ded_mem)
end
end Z

set_option Elab.async false
set_option linter.all false
set_option maxRecDepth 100000
set_option maxHeartbeats 0
namespace KL
open PySem PySem.Spec PyProof.Rows L2 Z
/-! ### the IR of the defs -/
def d_is_whole : Df := ⟨["thing"], ["thing"], (.cons (.ret false (.bool true (.cons (.op .isinst (.cons (.var 0) (.cons (.glob "int") .nil))) (.cons (.not_ (.op .isinst (.cons (.var 0) (.cons (.glob "bool") .nil)))) .nil)))) .nil)⟩
def d_is_place : Df := ⟨["n", "thing"], ["n", "thing"], (.cons (.ret false (.bool true (.cons (.call "is_whole" (.cons (.var 1) .nil)) (.cons (.chain .le .lt (.lit (.int 0)) (.var 1) (.var 0)) .nil)))) .nil)⟩
def d_is_set : Df := ⟨["n", "thing"], ["n", "thing", "one"], (.cons (.ite (.bool false (.cons (.not_ (.val (.op .isinst (.cons (.var 1) (.cons (.glob "list") .nil))))) (.cons (.not_ (.chain .le .lt (.lit (.int 1)) (.op .len (.cons (.var 1) .nil)) (.var 0))) .nil))) (.cons (.ret false (.lit (.bl false))) .nil) .nil) (.cons (.ret false (.bool true (.cons (.op .all1 (.cons (.comp false (.call "is_place" (.cons (.var 0) (.cons (.var 2) .nil))) (.nm 2) (.seq (.var 1)) .nil) .nil)) (.cons (.op .eq (.cons (.var 1) (.cons (.op (.sset false) (.cons (.var 1) .nil)) .nil))) .nil)))) .nil))⟩
def d_need_set : Df := ⟨["n", "thing"], ["n", "thing"], (.cons (.ite (.not_ (.val (.call "is_set" (.cons (.var 0) (.cons (.var 1) .nil))))) (.cons .never .nil) .nil) .nil)⟩
def d_leaving_by : Df := ⟨["web", "some"], ["web", "some", "tie"], (.cons (.ret false (.op .len (.cons (.comp false (.var 2) (.nm 2) (.seq (.op .idx (.cons (.var 0) (.cons (.lit (.int 1)) .nil)))) (.cons (.cmp .ne (.op .inn (.cons (.op .idx (.cons (.var 2) (.cons (.lit (.int 0)) .nil))) (.cons (.var 1) .nil))) (.op .inn (.cons (.op .idx (.cons (.var 2) (.cons (.lit (.int 1)) .nil))) (.cons (.var 1) .nil)))) .nil)) .nil))) .nil)⟩
def d_need_by : Df := ⟨["web", "falls", "some"], ["web", "falls", "some"], (.cons (.ret false (.op .max2 (.cons (.lit (.int 0)) (.cons (.op .sub (.cons (.op .add (.cons (.var 1) (.cons (.lit (.int 1)) .nil))) (.cons (.call "leaving_by" (.cons (.var 0) (.cons (.var 2) .nil))) .nil))) .nil)))) .nil)⟩
def d_leaving : Df := ⟨["web", "some"], ["web", "some"], (.cons (.expr (.call "need_set" (.cons (.op .idx (.cons (.var 0) (.cons (.lit (.int 0)) .nil))) (.cons (.var 1) .nil)))) (.cons (.ret false (.call "leaving_by" (.cons (.var 0) (.cons (.var 1) .nil)))) .nil))⟩
def d_need : Df := ⟨["web", "falls", "some"], ["web", "falls", "some"], (.cons (.expr (.call "need_set" (.cons (.op .idx (.cons (.var 0) (.cons (.lit (.int 0)) .nil))) (.cons (.var 2) .nil)))) (.cons (.ret false (.call "need_by" (.cons (.var 0) (.cons (.var 1) (.cons (.var 2) .nil))))) .nil))⟩
def d__law_pen : Df := ⟨["_law_script"], ["_law_script"], (.cons (.ret false (.dict true (.cons (.lit (.str "cells")) (.cons (.op (.list1 false) (.cons (.slice false (.var 0) .absent (.lit (.int 63))) .nil)) (.cons (.lit (.str "at")) (.cons (.lit (.int 0)) (.cons (.lit (.str "rest")) (.cons (.lit (.int 0)) .nil)))))))) .nil)⟩
def d__law_draw : Df := ⟨["_law_pen_here", "_law_many"], ["_law_pen_here", "_law_many", "_law_at", "_law_cell", "_law_number", "_law_found"], (.cons (.ite (.cmp .gt (.op .idx (.cons (.var 0) (.cons (.lit (.str "rest")) .nil))) (.lit (.int 0))) (.cons (.asg 5 (.op .mod (.cons (.op .idx (.cons (.var 0) (.cons (.lit (.str "rest")) .nil))) (.cons (.var 1) .nil)))) (.cons (.asgSub (.var 0) (.lit (.str "rest")) (.op .fdiv (.cons (.op .idx (.cons (.var 0) (.cons (.lit (.str "rest")) .nil))) (.cons (.var 1) .nil)))) (.cons (.ret false (.var 5)) .nil))) .nil) (.cons (.asg 2 (.op .idx (.cons (.var 0) (.cons (.lit (.str "at")) .nil)))) (.cons (.asgSub (.var 0) (.lit (.str "at")) (.op .add (.cons (.var 2) (.cons (.lit (.int 1)) .nil)))) (.cons (.asg 3 (.lit (.int 0))) (.cons (.ite (.cmp .ne (.op .idx (.cons (.var 0) (.cons (.lit (.str "cells")) .nil))) (.op (.lst false) .nil)) (.cons (.asg 3 (.op .idx (.cons (.op .idx (.cons (.var 0) (.cons (.lit (.str "cells")) .nil))) (.cons (.op .mod (.cons (.var 2) (.cons (.op .len (.cons (.op .idx (.cons (.var 0) (.cons (.lit (.str "cells")) .nil))) .nil)) .nil))) .nil)))) .nil) .nil) (.cons (.ite (.cmp .ge (.var 3) (.op .pow (.cons (.lit (.int 10)) (.cons (.lit (.int 18)) .nil)))) (.cons (.asgSub (.var 0) (.lit (.str "rest")) (.op .fdiv (.cons (.var 3) (.cons (.var 1) .nil)))) (.cons (.ret false (.op .mod (.cons (.var 3) (.cons (.var 1) .nil)))) .nil)) .nil) (.cons (.asg 4 (.op .mod (.cons (.op .mul (.cons (.op .add (.cons (.op .add (.cons (.op .mod (.cons (.var 3) (.cons (.lit (.int 2147483629)) .nil))) (.cons (.op .mul (.cons (.lit (.int 104729)) (.cons (.var 2) .nil))) .nil))) (.cons (.lit (.int 71)) .nil))) (.cons (.lit (.int 48271)) .nil))) (.cons (.lit (.int 2147483647)) .nil)))) (.cons (.asg 4 (.op .mod (.cons (.op .add (.cons (.op .add (.cons (.op .mul (.cons (.var 4) (.cons (.var 4) .nil))) (.cons (.op .mul (.cons (.lit (.int 69621)) (.cons (.var 2) .nil))) .nil))) (.cons (.lit (.int 13)) .nil))) (.cons (.lit (.int 2147483587)) .nil)))) (.cons (.ret false (.op .mod (.cons (.op .fdiv (.cons (.var 4) (.cons (.lit (.int 64)) .nil))) (.cons (.var 1) .nil)))) .nil)))))))))⟩
def d__law_order : Df := ⟨["_law_pen_here", "_law_n"], ["_law_pen_here", "_law_n", "_law_found", "_law_k"], (.cons (.asg 2 (.op (.lst true) .nil)) (.cons (.for_ (.nm 3) (.rng1 (.var 1)) (.cons (.expr (.mth .insert (.var 2) (.cons (.call "_law_draw" (.cons (.var 0) (.cons (.op .add (.cons (.var 3) (.cons (.lit (.int 1)) .nil))) .nil))) (.cons (.var 3) .nil)))) .nil)) (.cons (.ret true (.var 2)) .nil)))⟩
def d__law_ties : Df := ⟨["_law_pen_here", "_law_n"], ["_law_pen_here", "_law_n", "_law_shape", "_law_ties_here", "_law_k", "_law_some", "_law_tie", "_law_j"], (.cons (.asg 2 (.call "_law_draw" (.cons (.var 0) (.cons (.lit (.int 8)) .nil)))) (.cons (.asg 3 (.op (.lst true) .nil)) (.cons (.for_ (.nm 4) (.rng2 (.lit (.int 1)) (.var 1)) (.cons (.ite (.cmp .inn (.var 2) (.op .tup (.cons (.lit (.int 1)) (.cons (.lit (.int 3)) .nil)))) (.cons (.expr (.mth .append (.var 3) (.cons (.op .tup (.cons (.op .sub (.cons (.var 4) (.cons (.lit (.int 1)) .nil))) (.cons (.var 4) .nil))) .nil))) .nil) .nil) (.cons (.ite (.cmp .inn (.var 2) (.op .tup (.cons (.lit (.int 2)) (.cons (.lit (.int 6)) (.cons (.lit (.int 7)) .nil))))) (.cons (.expr (.mth .append (.var 3) (.cons (.op .tup (.cons (.call "_law_draw" (.cons (.var 0) (.cons (.var 4) .nil))) (.cons (.var 4) .nil))) .nil))) .nil) .nil) (.cons (.ite (.cmp .eq (.var 2) (.lit (.int 5))) (.cons (.expr (.mth .extend (.var 3) (.cons (.comp false (.op .tup (.cons (.var 7) (.cons (.var 4) .nil))) (.nm 7) (.rng1 (.var 4)) .nil) .nil))) .nil) .nil) .nil)))) (.cons (.ite (.bool true (.cons (.cmp .eq (.var 2) (.lit (.int 3))) (.cons (.cmp .gt (.var 1) (.lit (.int 1))) .nil))) (.cons (.expr (.mth .append (.var 3) (.cons (.op .tup (.cons (.lit (.int 0)) (.cons (.op .sub (.cons (.var 1) (.cons (.lit (.int 1)) .nil))) .nil))) .nil))) .nil) .nil) (.cons (.ite (.cmp .inn (.var 2) (.op .tup (.cons (.lit (.int 4)) (.cons (.lit (.int 6)) (.cons (.lit (.int 7)) .nil))))) (.cons (.asg 5 (.comp false (.op .tup (.cons (.call "_law_draw" (.cons (.var 0) (.cons (.var 1) .nil))) (.cons (.call "_law_draw" (.cons (.var 0) (.cons (.var 1) .nil))) .nil))) (.nm 4) (.rng1 (.call "_law_draw" (.cons (.var 0) (.cons (.op .mul (.cons (.lit (.int 2)) (.cons (.var 1) .nil))) .nil)))) .nil)) (.cons (.expr (.mth .extend (.var 3) (.cons (.comp false (.var 6) (.nm 6) (.seq (.var 5)) (.cons (.cmp .ne (.op .idx (.cons (.var 6) (.cons (.lit (.int 0)) .nil))) (.op .idx (.cons (.var 6) (.cons (.lit (.int 1)) .nil)))) .nil)) .nil))) .nil)) .nil) (.cons (.ite (.cmp .eq (.var 2) (.lit (.int 6))) (.cons (.asg 3 (.comp true (.var 6) (.nm 6) (.seq (.var 3)) (.cons (.cmp .eq (.op .lt (.cons (.op .idx (.cons (.var 6) (.cons (.lit (.int 0)) .nil))) (.cons (.op .fdiv (.cons (.var 1) (.cons (.lit (.int 2)) .nil))) .nil))) (.op .lt (.cons (.op .idx (.cons (.var 6) (.cons (.lit (.int 1)) .nil))) (.cons (.op .fdiv (.cons (.var 1) (.cons (.lit (.int 2)) .nil))) .nil)))) .nil))) .nil) .nil) (.cons (.for_ (.nm 4) (.rng1 (.call "_law_draw" (.cons (.var 0) (.cons (.op .idx (.cons (.op (.lst false) (.cons (.lit (.int 3)) (.cons (.lit (.int 1)) (.cons (.lit (.int 6)) (.cons (.lit (.int 13)) .nil))))) (.cons (.call "_law_draw" (.cons (.var 0) (.cons (.lit (.int 4)) .nil))) .nil))) .nil)))) (.cons (.ite (.cmp .ne (.var 3) (.op (.lst false) .nil)) (.cons (.expr (.mth .append (.var 3) (.cons (.op .idx (.cons (.var 3) (.cons (.call "_law_draw" (.cons (.var 0) (.cons (.op .len (.cons (.var 3) .nil)) .nil))) .nil))) .nil))) .nil) .nil) .nil)) (.cons (.ret true (.var 3)) .nil))))))))⟩
def d__law_web : Df := ⟨["_law_pen_here", "_law_most"], ["_law_pen_here", "_law_most", "_law_n", "_law_order_here", "_law_ties_here", "_law_a", "_law_b", "_law_tie"], (.cons (.asg 2 (.op .add (.cons (.lit (.int 1)) (.cons (.call "_law_draw" (.cons (.var 0) (.cons (.var 1) .nil))) .nil)))) (.cons (.asg 3 (.call "_law_order" (.cons (.var 0) (.cons (.var 2) .nil)))) (.cons (.asg 4 (.comp false (.op .tup (.cons (.op .idx (.cons (.var 3) (.cons (.var 5) .nil))) (.cons (.op .idx (.cons (.var 3) (.cons (.var 6) .nil))) .nil))) (.tp [(.nm 5), (.nm 6)]) (.seq (.call "_law_ties" (.cons (.var 0) (.cons (.var 2) .nil)))) .nil)) (.cons (.ret false (.op .tup (.cons (.var 2) (.cons (.op .tuple1 (.cons (.op (.sorted1 false) (.cons (.comp false (.op .tup (.cons (.op .min1 (.cons (.var 7) .nil)) (.cons (.op .max1 (.cons (.var 7) .nil)) .nil))) (.nm 7) (.seq (.var 4)) .nil) .nil)) .nil)) .nil)))) .nil))))⟩
def d__law_leaving : Df := ⟨["_law_ties_here", "_law_some"], ["_law_ties_here", "_law_some", "_law_tie"], (.cons (.ret false (.op .len (.cons (.comp false (.var 2) (.nm 2) (.seq (.var 0)) (.cons (.cmp .ne (.op .inn (.cons (.op .idx (.cons (.var 2) (.cons (.lit (.int 0)) .nil))) (.cons (.var 1) .nil))) (.op .inn (.cons (.op .idx (.cons (.var 2) (.cons (.lit (.int 1)) .nil))) (.cons (.var 1) .nil)))) .nil)) .nil))) .nil)⟩
def d__law_set : Df := ⟨["_law_pen_here", "_law_n"], ["_law_pen_here", "_law_n", "_law_many"], (.cons (.asg 2 (.op .add (.cons (.lit (.int 1)) (.cons (.call "_law_draw" (.cons (.var 0) (.cons (.op .sub (.cons (.var 1) (.cons (.lit (.int 1)) .nil))) .nil))) .nil)))) (.cons (.ret false (.op (.sorted1 false) (.cons (.slice false (.call "_law_order" (.cons (.var 0) (.cons (.var 1) .nil))) .absent (.var 2)) .nil))) .nil))⟩
def d__law_whole : Df := ⟨["_law_found", "_law_due"], ["_law_found", "_law_due"], (.cons (.ret false (.bool true (.cons (.op .isinst (.cons (.var 0) (.cons (.glob "int") .nil))) (.cons (.not_ (.op .isinst (.cons (.var 0) (.cons (.glob "bool") .nil)))) (.cons (.op .eq (.cons (.var 0) (.cons (.var 1) .nil))) .nil))))) .nil)⟩
def d_law : Df := ⟨["_law_script"], ["_law_script", "_law_pen_here", "_law_turn", "_law_k", "_law_n", "_law_ties_here", "_law_some", "_law_others", "_law_handed", "_law_many", "_law_falls", "_law_place"], (.cons (.asg 1 (.call "_law_pen" (.cons (.var 0) .nil))) (.cons (.for_ (.nm 2) (.rng1 (.lit (.int 3))) (.cons (.asgT (.tp [(.nm 4), (.nm 5)]) (.call "_law_web" (.cons (.var 1) (.cons (.lit (.int 8)) .nil)))) (.cons (.for_ (.nm 3) (.rng1 (.op .mul (.cons (.lit (.int 4)) (.cons (.op .int1 (.cons (.op .gt (.cons (.var 4) (.cons (.lit (.int 1)) .nil))) .nil)) .nil)))) (.cons (.asg 6 (.call "_law_set" (.cons (.var 1) (.cons (.var 4) .nil)))) (.cons (.asg 7 (.comp false (.var 11) (.nm 11) (.rng1 (.var 4)) (.cons (.cmp .notIn (.var 11) (.var 6)) .nil))) (.cons (.asg 8 (.op (.list1 false) (.cons (.var 6) .nil))) (.cons (.asg 9 (.call "_law_leaving" (.cons (.var 5) (.cons (.var 6) .nil)))) (.cons (.ite (.bool false (.cons (.not_ (.val (.call "_law_whole" (.cons (.call "leaving" (.cons (.op .tup (.cons (.var 4) (.cons (.var 5) .nil))) (.cons (.var 8) .nil))) (.cons (.var 9) .nil))))) (.cons (.not_ (.val (.call "_law_whole" (.cons (.call "leaving" (.cons (.op .tup (.cons (.var 4) (.cons (.var 5) .nil))) (.cons (.var 7) .nil))) (.cons (.var 9) .nil))))) .nil))) (.cons (.ret true (.lit (.bl false))) .nil) .nil) (.cons (.for_ (.nm 10) (.seq (.op .tup (.cons (.lit (.int 1)) (.cons (.lit (.int 2)) .nil)))) (.cons (.ite (.not_ (.val (.call "_law_whole" (.cons (.call "need" (.cons (.op .tup (.cons (.var 4) (.cons (.var 5) .nil))) (.cons (.var 10) (.cons (.var 8) .nil)))) (.cons (.op .max2 (.cons (.lit (.int 0)) (.cons (.op .sub (.cons (.op .add (.cons (.var 10) (.cons (.lit (.int 1)) .nil))) (.cons (.var 9) .nil))) .nil))) .nil))))) (.cons (.ret true (.lit (.bl false))) .nil) .nil) .nil)) (.cons (.ite (.cmp .ne (.var 8) (.var 6)) (.cons (.ret true (.lit (.bl false))) .nil) .nil) .nil)))))))) .nil))) (.cons (.ret true (.lit (.bl true))) .nil)))⟩
abbrev top (i : Nat) : Stmt := PySem.Challenge.pw_nofall_k21_ties_that_leave.main.body.getD i (.Pass ⟨0, 0, 0, 0⟩)
def mkRow (f : Str) (d : Df) (i : Nat) : Z.Row := ⟨f, d, defArgs (top i), defBody (top i), defScope (top i)⟩
def rows : List Z.Row := [mkRow "is_whole" d_is_whole 4,
  mkRow "is_place" d_is_place 5,
  mkRow "is_set" d_is_set 7,
  mkRow "need_set" d_need_set 8,
  mkRow "leaving_by" d_leaving_by 9,
  mkRow "need_by" d_need_by 10,
  mkRow "leaving" d_leaving 11,
  mkRow "need" d_need 12,
  mkRow "_law_pen" d__law_pen 14,
  mkRow "_law_draw" d__law_draw 15,
  mkRow "_law_order" d__law_order 16,
  mkRow "_law_ties" d__law_ties 17,
  mkRow "_law_web" d__law_web 18,
  mkRow "_law_leaving" d__law_leaving 19,
  mkRow "_law_set" d__law_set 20,
  mkRow "_law_whole" d__law_whole 21,
  mkRow "law" d_law 22]
def gls : List Str := ["bool", "int", "list"]
def free : List Str := ["all", "bool", "int", "isinstance", "len", "list", "max", "min", "range", "set", "sorted", "tuple"]
def GG (x : Str) : Option D := if x = "bool" then some (.ty "bool") else if x = "int" then some (.ty "int") else if x = "list" then some (.ty "list") else none
abbrev T : Tab := tabOf rows
theorem chk : (rows.all (chkRow (fnsOf rows) gls free)) = true := by decide +kernel
theorem lk_is_whole : T.lookup ("is_whole" : Str) = some d_is_whole := by rfl
theorem lk_is_place : T.lookup ("is_place" : Str) = some d_is_place := by rfl
theorem lk_is_set : T.lookup ("is_set" : Str) = some d_is_set := by rfl
theorem lk_need_set : T.lookup ("need_set" : Str) = some d_need_set := by rfl
theorem lk_leaving_by : T.lookup ("leaving_by" : Str) = some d_leaving_by := by rfl
theorem lk_need_by : T.lookup ("need_by" : Str) = some d_need_by := by rfl
theorem lk_leaving : T.lookup ("leaving" : Str) = some d_leaving := by rfl
theorem lk_need : T.lookup ("need" : Str) = some d_need := by rfl
theorem lk__law_pen : T.lookup ("_law_pen" : Str) = some d__law_pen := by rfl
theorem lk__law_draw : T.lookup ("_law_draw" : Str) = some d__law_draw := by rfl
theorem lk__law_order : T.lookup ("_law_order" : Str) = some d__law_order := by rfl
theorem lk__law_ties : T.lookup ("_law_ties" : Str) = some d__law_ties := by rfl
theorem lk__law_web : T.lookup ("_law_web" : Str) = some d__law_web := by rfl
theorem lk__law_leaving : T.lookup ("_law_leaving" : Str) = some d__law_leaving := by rfl
theorem lk__law_set : T.lookup ("_law_set" : Str) = some d__law_set := by rfl
theorem lk__law_whole : T.lookup ("_law_whole" : Str) = some d__law_whole := by rfl
theorem lk_law : T.lookup ("law" : Str) = some d_law := by rfl
theorem lkT : ∀ r ∈ rows, (tabOf rows).lookup r.f = some r.d := by
  intro r hr
  simp only [rows, List.mem_cons, List.not_mem_nil, or_false] at hr
  rcases hr with rfl | rfl | rfl | rfl | rfl | rfl | rfl | rfl | rfl | rfl | rfl | rfl | rfl | rfl | rfl | rfl | rfl
  · exact lk_is_whole
  · exact lk_is_place
  · exact lk_is_set
  · exact lk_need_set
  · exact lk_leaving_by
  · exact lk_need_by
  · exact lk_leaving
  · exact lk_need
  · exact lk__law_pen
  · exact lk__law_draw
  · exact lk__law_order
  · exact lk__law_ties
  · exact lk__law_web
  · exact lk__law_leaving
  · exact lk__law_set
  · exact lk__law_whole
  · exact lk_law
theorem lkR : (rows.all fun r => decide ((T.lookup r.f).isSome)) = true := by decide +kernel
end KL

set_option Elab.async false
set_option linter.all false
set_option maxRecDepth 100000
set_option maxHeartbeats 0
namespace KL
open PySem PySem.Spec PyProof.Rows L2 Z
def penO (cells : List Int) (a r : Int) : Ob := .dK [(.inr ("cells" : Str), .lst (cells.map .int)), (.inr ("at" : Str), .int a), (.inr ("rest" : Str), .int r)]
section
variable {M : MM} {Q : PQ} {p : Addr} {cells : List Int} {a r : Int}
theorem pen_cells (h : M p = some (penO cells a r)) : idxW (.cell p) (.str "cells") M Q = Q (.lst (cells.map .int)) M := by
  rw [idxW_dct _ h (key := .inr "cells") rfl]
  have : dGet (κ := Key) [(.inr ("cells" : Str), .lst (cells.map .int)), (.inr ("at" : Str), .int a), (.inr ("rest" : Str), .int r)] (.inr "cells") = some (.lst (cells.map .int)) := by rfl
  simp [this]
theorem pen_at (h : M p = some (penO cells a r)) : idxW (.cell p) (.str "at") M Q = Q (.int a) M := by
  rw [idxW_dct _ h (key := .inr "at") rfl]
  have : dGet (κ := Key) [(.inr ("cells" : Str), .lst (cells.map .int)), (.inr ("at" : Str), .int a), (.inr ("rest" : Str), .int r)] (.inr "at") = some (.int a) := by rfl
  simp [this]
theorem pen_rest (h : M p = some (penO cells a r)) : idxW (.cell p) (.str "rest") M Q = Q (.int r) M := by
  rw [idxW_dct _ h (key := .inr "rest") rfl]
  have : dGet (κ := Key) [(.inr ("cells" : Str), .lst (cells.map .int)), (.inr ("at" : Str), .int a), (.inr ("rest" : Str), .int r)] (.inr "rest") = some (.int r) := by rfl
  simp [this]
theorem pen_setat {Q : MM → Prop} (h : M p = some (penO cells a r)) {v : Int} : setW (.cell p) (.str "at") (.int v) M Q = Q (put M p (penO cells v r)) := by
  have e : dPut (κ := Key) [(.inr ("cells" : Str), .lst (cells.map .int)), (.inr ("at" : Str), .int a), (.inr ("rest" : Str), .int r)] (.inr "at") (.int v) = [(.inr ("cells" : Str), .lst (cells.map .int)), (.inr ("at" : Str), .int v), (.inr ("rest" : Str), .int r)] := by rfl
  simp only [setW, h, penO, Z.keyOf, e, List.length_cons, List.length_nil]
  simp [sizeLine]
theorem pen_setrest {Q : MM → Prop} (h : M p = some (penO cells a r)) {v : Int} : setW (.cell p) (.str "rest") (.int v) M Q = Q (put M p (penO cells a v)) := by
  have e : dPut (κ := Key) [(.inr ("cells" : Str), .lst (cells.map .int)), (.inr ("at" : Str), .int a), (.inr ("rest" : Str), .int r)] (.inr "rest") (.int v) = [(.inr ("cells" : Str), .lst (cells.map .int)), (.inr ("at" : Str), .int a), (.inr ("rest" : Str), .int v)] := by rfl
  simp only [setW, h, penO, Z.keyOf, e, List.length_cons, List.length_nil]
  simp [sizeLine]
end
theorem draw_spec {M : MM} {p : Addr} {cells : List Int} {a r m : Int} (hp : M p = some (penO cells a r)) (hc : cells.length ≤ 63) (h0 : 0 < m) (h1 : m < 1073741824) :
    callN T GG 1 "_law_draw" [.cell p, .int m] M (fun d M' => ∃ v a r, d = .int v ∧ 0 ≤ v ∧ v < m ∧ M' = put M p (penO cells a r)) nX := by
  refine call_def lk__law_draw ⟨rfl, ?_⟩
  simp only [d__law_draw, startD, List.map_cons, List.map_nil, List.length_cons, List.length_nil, Nat.zero_add, Nat.reduceAdd, Nat.reduceSub, Nat.sub_self, List.replicate_succ, List.replicate_zero, List.cons_append, List.nil_append, List.append_nil]
  refine seq_abs fun K hK => ?_
  simp only [wS.eq_1, wS.eq_2, wS.eq_3, wS.eq_4, wS.eq_5, wS.eq_6, wS.eq_7, wS.eq_8, wS.eq_11, wE.eq_1, wE.eq_2, wE.eq_3, wE.eq_4, wE.eq_5, wE.eq_6, wE.eq_7, wE.eq_8, wE.eq_9, wE.eq_10, wE.eq_11, wE.eq_12, wE.eq_14, wEs, wDi, wBo, wT, wBt, wIfs, wI, itOf, Z.guard, opW, i2, addW, mulW, eqW_int, eqW_bl, eqW_str, newL_f, newL_t, List.length_nil, List.length_cons, truW, bindT, bindTs, Lit.d, Z.keyOf, isAbs, Z.part, seqOf, lstT, lstOf, List.getElem?_cons_zero, List.getElem?_cons_succ, List.set_cons_zero, List.set_cons_succ, Bool.false_xor, Bool.true_xor, lenW_lst, lenW_tup, idx_fst, idx_snd, put_same, put_put, sz0, sz1, sz2, sz3, sz4, sz5, sz6, sz7, sz8, true_and, and_true, implies_true, beq_true, beq_false, Bool.not_false, Bool.not_true, pen_rest hp]
  split
  · -- a rest
    refine seq_abs fun K1 hK1 => ?_
    simp only [wS.eq_1, wS.eq_2, wS.eq_3, wS.eq_4, wS.eq_5, wS.eq_6, wS.eq_7, wS.eq_8, wS.eq_11, wE.eq_1, wE.eq_2, wE.eq_3, wE.eq_4, wE.eq_5, wE.eq_6, wE.eq_7, wE.eq_8, wE.eq_9, wE.eq_10, wE.eq_11, wE.eq_12, wE.eq_14, wEs, wDi, wBo, wT, wBt, wIfs, wI, itOf, Z.guard, opW, i2, addW, mulW, eqW_int, eqW_bl, eqW_str, newL_f, newL_t, List.length_nil, List.length_cons, truW, bindT, bindTs, Lit.d, Z.keyOf, isAbs, Z.part, seqOf, lstT, lstOf, List.getElem?_cons_zero, List.getElem?_cons_succ, List.set_cons_zero, List.set_cons_succ, Bool.false_xor, Bool.true_xor, lenW_lst, lenW_tup, idx_fst, idx_snd, put_same, put_put, sz0, sz1, sz2, sz3, sz4, sz5, sz6, sz7, sz8, true_and, and_true, implies_true, beq_true, beq_false, Bool.not_false, Bool.not_true, pen_rest hp]
    refine ⟨h0, hK1 _ _ ?_⟩
    refine seq_abs fun K2 hK2 => ?_
    simp only [wS.eq_1, wS.eq_2, wS.eq_3, wS.eq_4, wS.eq_5, wS.eq_6, wS.eq_7, wS.eq_8, wS.eq_11, wE.eq_1, wE.eq_2, wE.eq_3, wE.eq_4, wE.eq_5, wE.eq_6, wE.eq_7, wE.eq_8, wE.eq_9, wE.eq_10, wE.eq_11, wE.eq_12, wE.eq_14, wEs, wDi, wBo, wT, wBt, wIfs, wI, itOf, Z.guard, opW, i2, addW, mulW, eqW_int, eqW_bl, eqW_str, newL_f, newL_t, List.length_nil, List.length_cons, truW, bindT, bindTs, Lit.d, Z.keyOf, isAbs, Z.part, seqOf, lstT, lstOf, List.getElem?_cons_zero, List.getElem?_cons_succ, List.set_cons_zero, List.set_cons_succ, Bool.false_xor, Bool.true_xor, lenW_lst, lenW_tup, idx_fst, idx_snd, put_same, put_put, sz0, sz1, sz2, sz3, sz4, sz5, sz6, sz7, sz8, true_and, and_true, implies_true, beq_true, beq_false, Bool.not_false, Bool.not_true, pen_rest hp, pen_setrest hp]
    refine ⟨⟨h0, h1⟩, hK2 _ _ ?_⟩
    refine seq_abs fun K3 hK3 => ?_
    simp only [wS.eq_1, wS.eq_2, wS.eq_3, wS.eq_4, wS.eq_5, wS.eq_6, wS.eq_7, wS.eq_8, wS.eq_11, wE.eq_1, wE.eq_2, wE.eq_3, wE.eq_4, wE.eq_5, wE.eq_6, wE.eq_7, wE.eq_8, wE.eq_9, wE.eq_10, wE.eq_11, wE.eq_12, wE.eq_14, wEs, wDi, wBo, wT, wBt, wIfs, wI, itOf, Z.guard, opW, i2, addW, mulW, eqW_int, eqW_bl, eqW_str, newL_f, newL_t, List.length_nil, List.length_cons, truW, bindT, bindTs, Lit.d, Z.keyOf, isAbs, Z.part, seqOf, lstT, lstOf, List.getElem?_cons_zero, List.getElem?_cons_succ, List.set_cons_zero, List.set_cons_succ, Bool.false_xor, Bool.true_xor, lenW_lst, lenW_tup, idx_fst, idx_snd, put_same, put_put, sz0, sz1, sz2, sz3, sz4, sz5, sz6, sz7, sz8, true_and, and_true, implies_true, beq_true, beq_false, Bool.not_false, Bool.not_true]
    exact ⟨_, _, _, rfl, Int.emod_nonneg _ (by omega), Int.emod_lt_of_pos _ h0, rfl⟩
  · refine seq_nil (hK _ _ ?_)
    refine seq_abs fun K1 hK1 => ?_
    simp only [wS.eq_1, wS.eq_2, wS.eq_3, wS.eq_4, wS.eq_5, wS.eq_6, wS.eq_7, wS.eq_8, wS.eq_11, wE.eq_1, wE.eq_2, wE.eq_3, wE.eq_4, wE.eq_5, wE.eq_6, wE.eq_7, wE.eq_8, wE.eq_9, wE.eq_10, wE.eq_11, wE.eq_12, wE.eq_14, wEs, wDi, wBo, wT, wBt, wIfs, wI, itOf, Z.guard, opW, i2, addW, mulW, eqW_int, eqW_bl, eqW_str, newL_f, newL_t, List.length_nil, List.length_cons, truW, bindT, bindTs, Lit.d, Z.keyOf, isAbs, Z.part, seqOf, lstT, lstOf, List.getElem?_cons_zero, List.getElem?_cons_succ, List.set_cons_zero, List.set_cons_succ, Bool.false_xor, Bool.true_xor, lenW_lst, lenW_tup, idx_fst, idx_snd, put_same, put_put, sz0, sz1, sz2, sz3, sz4, sz5, sz6, sz7, sz8, true_and, and_true, implies_true, beq_true, beq_false, Bool.not_false, Bool.not_true, pen_at hp]
    refine hK1 _ _ ?_
    refine seq_abs fun K2 hK2 => ?_
    simp only [wS.eq_1, wS.eq_2, wS.eq_3, wS.eq_4, wS.eq_5, wS.eq_6, wS.eq_7, wS.eq_8, wS.eq_11, wE.eq_1, wE.eq_2, wE.eq_3, wE.eq_4, wE.eq_5, wE.eq_6, wE.eq_7, wE.eq_8, wE.eq_9, wE.eq_10, wE.eq_11, wE.eq_12, wE.eq_14, wEs, wDi, wBo, wT, wBt, wIfs, wI, itOf, Z.guard, opW, i2, addW, mulW, eqW_int, eqW_bl, eqW_str, newL_f, newL_t, List.length_nil, List.length_cons, truW, bindT, bindTs, Lit.d, Z.keyOf, isAbs, Z.part, seqOf, lstT, lstOf, List.getElem?_cons_zero, List.getElem?_cons_succ, List.set_cons_zero, List.set_cons_succ, Bool.false_xor, Bool.true_xor, lenW_lst, lenW_tup, idx_fst, idx_snd, put_same, put_put, sz0, sz1, sz2, sz3, sz4, sz5, sz6, sz7, sz8, true_and, and_true, implies_true, beq_true, beq_false, Bool.not_false, Bool.not_true, pen_setat hp]
    refine hK2 _ _ ?_
    refine seq_abs fun K3 hK3 => ?_
    simp only [wS.eq_1, wS.eq_2, wS.eq_3, wS.eq_4, wS.eq_5, wS.eq_6, wS.eq_7, wS.eq_8, wS.eq_11, wE.eq_1, wE.eq_2, wE.eq_3, wE.eq_4, wE.eq_5, wE.eq_6, wE.eq_7, wE.eq_8, wE.eq_9, wE.eq_10, wE.eq_11, wE.eq_12, wE.eq_14, wEs, wDi, wBo, wT, wBt, wIfs, wI, itOf, Z.guard, opW, i2, addW, mulW, eqW_int, eqW_bl, eqW_str, newL_f, newL_t, List.length_nil, List.length_cons, truW, bindT, bindTs, Lit.d, Z.keyOf, isAbs, Z.part, seqOf, lstT, lstOf, List.getElem?_cons_zero, List.getElem?_cons_succ, List.set_cons_zero, List.set_cons_succ, Bool.false_xor, Bool.true_xor, lenW_lst, lenW_tup, idx_fst, idx_snd, put_same, put_put, sz0, sz1, sz2, sz3, sz4, sz5, sz6, sz7, sz8, true_and, and_true, implies_true, beq_true, beq_false, Bool.not_false, Bool.not_true]
    refine hK3 _ _ ?_
    have hp1 : put M p (penO cells (a + 1) r) p = some (penO cells (a + 1) r) := put_same
    refine seq_abs fun K4 hK4 => ?_
    have cut : ∀ x : Int, K4 [some (.cell p), some (.int m), some (.int a), some (.int x), none, none] (put M p (penO cells (a + 1) r)) := fun x => by
      refine hK4 _ _ ?_
      clear hK4 hK3 hK2 hK1 hK
      refine seq_abs fun K5 hK5 => ?_
      simp only [wS.eq_1, wS.eq_2, wS.eq_3, wS.eq_4, wS.eq_5, wS.eq_6, wS.eq_7, wS.eq_8, wS.eq_11, wE.eq_1, wE.eq_2, wE.eq_3, wE.eq_4, wE.eq_5, wE.eq_6, wE.eq_7, wE.eq_8, wE.eq_9, wE.eq_10, wE.eq_11, wE.eq_12, wE.eq_14, wEs, wDi, wBo, wT, wBt, wIfs, wI, itOf, Z.guard, opW, i2, addW, mulW, eqW_int, eqW_bl, eqW_str, newL_f, newL_t, List.length_nil, List.length_cons, truW, bindT, bindTs, Lit.d, Z.keyOf, isAbs, Z.part, seqOf, lstT, lstOf, List.getElem?_cons_zero, List.getElem?_cons_succ, List.set_cons_zero, List.set_cons_succ, Bool.false_xor, Bool.true_xor, lenW_lst, lenW_tup, idx_fst, idx_snd, put_same, put_put, sz0, sz1, sz2, sz3, sz4, sz5, sz6, sz7, sz8, true_and, and_true, implies_true, beq_true, beq_false, Bool.not_false, Bool.not_true]
      refine ⟨⟨by decide, by decide, by decide⟩, ?_⟩
      split
      · refine seq_abs fun K6 hK6 => ?_
        simp only [wS.eq_1, wS.eq_2, wS.eq_3, wS.eq_4, wS.eq_5, wS.eq_6, wS.eq_7, wS.eq_8, wS.eq_11, wE.eq_1, wE.eq_2, wE.eq_3, wE.eq_4, wE.eq_5, wE.eq_6, wE.eq_7, wE.eq_8, wE.eq_9, wE.eq_10, wE.eq_11, wE.eq_12, wE.eq_14, wEs, wDi, wBo, wT, wBt, wIfs, wI, itOf, Z.guard, opW, i2, addW, mulW, eqW_int, eqW_bl, eqW_str, newL_f, newL_t, List.length_nil, List.length_cons, truW, bindT, bindTs, Lit.d, Z.keyOf, isAbs, Z.part, seqOf, lstT, lstOf, List.getElem?_cons_zero, List.getElem?_cons_succ, List.set_cons_zero, List.set_cons_succ, Bool.false_xor, Bool.true_xor, lenW_lst, lenW_tup, idx_fst, idx_snd, put_same, put_put, sz0, sz1, sz2, sz3, sz4, sz5, sz6, sz7, sz8, true_and, and_true, implies_true, beq_true, beq_false, Bool.not_false, Bool.not_true, pen_setrest hp1]
        refine ⟨⟨h0, h1⟩, hK6 _ _ ?_⟩
        refine seq_abs fun K7 hK7 => ?_
        simp only [wS.eq_1, wS.eq_2, wS.eq_3, wS.eq_4, wS.eq_5, wS.eq_6, wS.eq_7, wS.eq_8, wS.eq_11, wE.eq_1, wE.eq_2, wE.eq_3, wE.eq_4, wE.eq_5, wE.eq_6, wE.eq_7, wE.eq_8, wE.eq_9, wE.eq_10, wE.eq_11, wE.eq_12, wE.eq_14, wEs, wDi, wBo, wT, wBt, wIfs, wI, itOf, Z.guard, opW, i2, addW, mulW, eqW_int, eqW_bl, eqW_str, newL_f, newL_t, List.length_nil, List.length_cons, truW, bindT, bindTs, Lit.d, Z.keyOf, isAbs, Z.part, seqOf, lstT, lstOf, List.getElem?_cons_zero, List.getElem?_cons_succ, List.set_cons_zero, List.set_cons_succ, Bool.false_xor, Bool.true_xor, lenW_lst, lenW_tup, idx_fst, idx_snd, put_same, put_put, sz0, sz1, sz2, sz3, sz4, sz5, sz6, sz7, sz8, true_and, and_true, implies_true, beq_true, beq_false, Bool.not_false, Bool.not_true]
        exact ⟨h0, _, _, _, rfl, Int.emod_nonneg _ (by omega), Int.emod_lt_of_pos _ h0, rfl⟩
      · refine seq_nil (hK5 _ _ ?_)
        refine seq_abs fun K6 hK6 => ?_
        simp only [wS.eq_1, wS.eq_2, wS.eq_3, wS.eq_4, wS.eq_5, wS.eq_6, wS.eq_7, wS.eq_8, wS.eq_11, wE.eq_1, wE.eq_2, wE.eq_3, wE.eq_4, wE.eq_5, wE.eq_6, wE.eq_7, wE.eq_8, wE.eq_9, wE.eq_10, wE.eq_11, wE.eq_12, wE.eq_14, wEs, wDi, wBo, wT, wBt, wIfs, wI, itOf, Z.guard, opW, i2, addW, mulW, eqW_int, eqW_bl, eqW_str, newL_f, newL_t, List.length_nil, List.length_cons, truW, bindT, bindTs, Lit.d, Z.keyOf, isAbs, Z.part, seqOf, lstT, lstOf, List.getElem?_cons_zero, List.getElem?_cons_succ, List.set_cons_zero, List.set_cons_succ, Bool.false_xor, Bool.true_xor, lenW_lst, lenW_tup, idx_fst, idx_snd, put_same, put_put, sz0, sz1, sz2, sz3, sz4, sz5, sz6, sz7, sz8, true_and, and_true, implies_true, beq_true, beq_false, Bool.not_false, Bool.not_true]
        refine ⟨by decide, .inl ⟨by decide, by decide⟩, .inr ⟨by decide, by decide⟩, by decide, hK6 _ _ ?_⟩
        refine seq_abs fun K7 hK7 => ?_
        simp only [wS.eq_1, wS.eq_2, wS.eq_3, wS.eq_4, wS.eq_5, wS.eq_6, wS.eq_7, wS.eq_8, wS.eq_11, wE.eq_1, wE.eq_2, wE.eq_3, wE.eq_4, wE.eq_5, wE.eq_6, wE.eq_7, wE.eq_8, wE.eq_9, wE.eq_10, wE.eq_11, wE.eq_12, wE.eq_14, wEs, wDi, wBo, wT, wBt, wIfs, wI, itOf, Z.guard, opW, i2, addW, mulW, eqW_int, eqW_bl, eqW_str, newL_f, newL_t, List.length_nil, List.length_cons, truW, bindT, bindTs, Lit.d, Z.keyOf, isAbs, Z.part, seqOf, lstT, lstOf, List.getElem?_cons_zero, List.getElem?_cons_succ, List.set_cons_zero, List.set_cons_succ, Bool.false_xor, Bool.true_xor, lenW_lst, lenW_tup, idx_fst, idx_snd, put_same, put_put, sz0, sz1, sz2, sz3, sz4, sz5, sz6, sz7, sz8, true_and, and_true, implies_true, beq_true, beq_false, Bool.not_false, Bool.not_true]
        have g1 := Int.emod_nonneg ((x % 2147483629 + 104729 * a + 71) * 48271) (b := 2147483647) (by decide)
        have g2 := Int.emod_lt_of_pos ((x % 2147483629 + 104729 * a + 71) * 48271) (b := 2147483647) (by decide)
        generalize (x % 2147483629 + 104729 * a + 71) * 48271 % 2147483647 = y at g1 g2 ⊢
        refine ⟨.inl ⟨by omega, by omega⟩, .inl ⟨by decide, by decide⟩, by decide, hK7 _ _ ?_⟩
        refine seq_abs fun K8 hK8 => ?_
        simp only [wS.eq_1, wS.eq_2, wS.eq_3, wS.eq_4, wS.eq_5, wS.eq_6, wS.eq_7, wS.eq_8, wS.eq_11, wE.eq_1, wE.eq_2, wE.eq_3, wE.eq_4, wE.eq_5, wE.eq_6, wE.eq_7, wE.eq_8, wE.eq_9, wE.eq_10, wE.eq_11, wE.eq_12, wE.eq_14, wEs, wDi, wBo, wT, wBt, wIfs, wI, itOf, Z.guard, opW, i2, addW, mulW, eqW_int, eqW_bl, eqW_str, newL_f, newL_t, List.length_nil, List.length_cons, truW, bindT, bindTs, Lit.d, Z.keyOf, isAbs, Z.part, seqOf, lstT, lstOf, List.getElem?_cons_zero, List.getElem?_cons_succ, List.set_cons_zero, List.set_cons_succ, Bool.false_xor, Bool.true_xor, lenW_lst, lenW_tup, idx_fst, idx_snd, put_same, put_put, sz0, sz1, sz2, sz3, sz4, sz5, sz6, sz7, sz8, true_and, and_true, implies_true, beq_true, beq_false, Bool.not_false, Bool.not_true]
        exact ⟨⟨by decide, by decide⟩, h0, _, _, _, rfl, Int.emod_nonneg _ (by omega), Int.emod_lt_of_pos _ h0, rfl⟩
    simp only [wS.eq_1, wS.eq_2, wS.eq_3, wS.eq_4, wS.eq_5, wS.eq_6, wS.eq_7, wS.eq_8, wS.eq_11, wE.eq_1, wE.eq_2, wE.eq_3, wE.eq_4, wE.eq_5, wE.eq_6, wE.eq_7, wE.eq_8, wE.eq_9, wE.eq_10, wE.eq_11, wE.eq_12, wE.eq_14, wEs, wDi, wBo, wT, wBt, wIfs, wI, itOf, Z.guard, opW, i2, addW, mulW, eqW_int, eqW_bl, eqW_str, newL_f, newL_t, List.length_nil, List.length_cons, truW, bindT, bindTs, Lit.d, Z.keyOf, isAbs, Z.part, seqOf, lstT, lstOf, List.getElem?_cons_zero, List.getElem?_cons_succ, List.set_cons_zero, List.set_cons_succ, Bool.false_xor, Bool.true_xor, lenW_lst, lenW_tup, idx_fst, idx_snd, put_same, put_put, sz0, sz1, sz2, sz3, sz4, sz5, sz6, sz7, sz8, true_and, and_true, implies_true, beq_true, beq_false, Bool.not_false, Bool.not_true, pen_cells hp1]
    refine eqW_ints (y := []) ?_
    by_cases hcn : cells = []
    · subst hcn
      exact seq_nil (cut 0)
    · simp only [hcn, decide_false, Bool.true_xor, Bool.not_false]
      refine seq_abs fun K5 hK5 => ?_
      simp only [wS.eq_1, wS.eq_2, wS.eq_3, wS.eq_4, wS.eq_5, wS.eq_6, wS.eq_7, wS.eq_8, wS.eq_11, wE.eq_1, wE.eq_2, wE.eq_3, wE.eq_4, wE.eq_5, wE.eq_6, wE.eq_7, wE.eq_8, wE.eq_9, wE.eq_10, wE.eq_11, wE.eq_12, wE.eq_14, wEs, wDi, wBo, wT, wBt, wIfs, wI, itOf, Z.guard, opW, i2, addW, mulW, eqW_int, eqW_bl, eqW_str, newL_f, newL_t, List.length_nil, List.length_cons, truW, bindT, bindTs, Lit.d, Z.keyOf, isAbs, Z.part, seqOf, lstT, lstOf, List.getElem?_cons_zero, List.getElem?_cons_succ, List.set_cons_zero, List.set_cons_succ, Bool.false_xor, Bool.true_xor, lenW_lst, lenW_tup, idx_fst, idx_snd, put_same, put_put, sz0, sz1, sz2, sz3, sz4, sz5, sz6, sz7, sz8, true_and, and_true, implies_true, beq_true, beq_false, Bool.not_false, Bool.not_true, pen_cells hp1]
      have hl : (0 : Int) < cells.length := by
        have := List.length_pos_iff.mpr hcn
        omega
      have g1 := Int.emod_nonneg a (b := cells.length) (by omega)
      have g2 := Int.emod_lt_of_pos a hl
      have hx : (cells.map D.int)[(a % (cells.length : Int)).toNat]? = some (.int (cells[(a % (cells.length : Int)).toNat]'(by omega))) := by simp
      simp only [List.length_map, idxW_lst]
      refine ⟨hl, _, (ixD_of g1).trans hx, ?_⟩
      exact hK5 _ _ (seq_nil (cut _))
/-- the pen's word: it may have been turned -/
def PenR (M : MM) (p : Addr) (cells : List Int) (M' : MM) : Prop := ∃ a r, M' = put M p (penO cells a r)
theorem pen_spec {ns : List Int} {M : MM} : callN T GG 1 "_law_pen" [.scr ns] M (fun d M' => ∃ p cells, d = .cell p ∧ M p = none ∧ cells.length ≤ 63 ∧ M' = put M p (penO cells 0 0)) nX := by
  refine call_def lk__law_pen ⟨rfl, ?_⟩
  simp only [d__law_pen, startD, List.map_cons, List.map_nil, List.length_cons, List.length_nil, Nat.zero_add, Nat.reduceAdd, Nat.reduceSub, Nat.sub_self, List.replicate_succ, List.replicate_zero, List.cons_append, List.nil_append, List.append_nil]
  simp only [wSs, wS.eq_1, wS.eq_2, wS.eq_3, wS.eq_4, wS.eq_5, wS.eq_6, wS.eq_7, wS.eq_8, wS.eq_11, wE.eq_1, wE.eq_2, wE.eq_3, wE.eq_4, wE.eq_5, wE.eq_6, wE.eq_7, wE.eq_8, wE.eq_9, wE.eq_10, wE.eq_11, wE.eq_12, wE.eq_14, wEs, wDi, wBo, wT, wBt, wIfs, wI, itOf, Z.guard, opW, i2, addW, mulW, eqW_int, eqW_bl, eqW_str, newL_f, newL_t, List.length_nil, List.length_cons, truW, bindT, bindTs, Lit.d, Z.keyOf, isAbs, Z.part, seqOf, lstT, lstOf, List.getElem?_cons_zero, List.getElem?_cons_succ, List.set_cons_zero, List.set_cons_succ, Bool.false_xor, Bool.true_xor, lenW_lst, lenW_tup, idx_fst, idx_snd, put_same, put_put, sz0, sz1, sz2, sz3, sz4, sz5, sz6, sz7, sz8, true_and, and_true, implies_true, beq_true, beq_false, Bool.not_false, Bool.not_true]
  intro p hp
  have e : Z.cutD (ns.map D.int) none (some 63) = (ns.take 63).map D.int := by
    unfold Z.cutD
    show ((ns.map D.int).drop 0).take (HT.sIx (ns.map D.int).length (ns.map D.int).length (some ((63 : Nat) : Int)) - 0) = _
    rw [HT.sIx_nat, List.drop_zero, List.map_take]
    simp only [Nat.sub_zero, List.length_map]
    rw [show min 63 ns.length = min 63 (ns.map D.int).length by simp, ← List.take_eq_take_min]
  simp only [sliceW, lstOf, e]
  have hl : ((ns.take 63).map D.int).length ≤ sizeLine := by
    have : sizeLine = 2 ^ 24 := rfl
    simp
    omega
  refine ⟨hl, .inl ⟨_, rfl, hl, put_same, p, ns.take 63, rfl, hp, by simp; omega, ?_⟩⟩
  rw [put_put]
  rfl
theorem order_spec {M : MM} {p : Addr} {cells : List Int} {a r n : Int} (hp : M p = some (penO cells a r)) (hc : cells.length ≤ 63) (h0 : 0 ≤ n) (h1 : n ≤ 1000) :
    callN T GG 2 "_law_order" [.cell p, .int n] M (fun d M' => ∃ o : List Int, d = .lst (o.map .int) ∧ o.Perm ((List.range n.toNat).map fun (k : Nat) => (k : Int)) ∧ PenR M p cells M') nX := by
  refine call_def lk__law_order ⟨rfl, ?_⟩
  simp only [d__law_order, startD, List.map_cons, List.map_nil, List.length_cons, List.length_nil, Nat.zero_add, Nat.reduceAdd, Nat.reduceSub, Nat.sub_self, List.replicate_succ, List.replicate_zero, List.cons_append, List.nil_append, List.append_nil]
  refine seq_abs fun K hK => ?_
  simp only [wS.eq_1, wS.eq_2, wS.eq_3, wS.eq_4, wS.eq_5, wS.eq_6, wS.eq_7, wS.eq_8, wS.eq_11, wE.eq_1, wE.eq_2, wE.eq_3, wE.eq_4, wE.eq_5, wE.eq_6, wE.eq_7, wE.eq_8, wE.eq_9, wE.eq_10, wE.eq_11, wE.eq_12, wE.eq_14, wEs, wDi, wBo, wT, wBt, wIfs, wI, itOf, Z.guard, opW, i2, addW, mulW, eqW_int, eqW_bl, eqW_str, newL_f, newL_t, List.length_nil, List.length_cons, truW, bindT, bindTs, Lit.d, Z.keyOf, isAbs, Z.part, seqOf, lstT, lstOf, List.getElem?_cons_zero, List.getElem?_cons_succ, List.set_cons_zero, List.set_cons_succ, Bool.false_xor, Bool.true_xor, lenW_lst, lenW_tup, idx_fst, idx_snd, put_same, put_put, sz0, sz1, sz2, sz3, sz4, sz5, sz6, sz7, sz8, true_and, and_true, implies_true, beq_true, beq_false, Bool.not_false, Bool.not_true]
  refine fun q hq => hK _ _ ?_
  have hqp : q ≠ p := by rintro rfl; rw [hq] at hp; cases hp
  refine seq_abs fun K1 hK1 => ?_
  refine for_rule (callN_mono _) ?_
  simp only [wS.eq_1, wS.eq_2, wS.eq_3, wS.eq_4, wS.eq_5, wS.eq_6, wS.eq_7, wS.eq_8, wS.eq_11, wE.eq_1, wE.eq_2, wE.eq_3, wE.eq_4, wE.eq_5, wE.eq_6, wE.eq_7, wE.eq_8, wE.eq_9, wE.eq_10, wE.eq_11, wE.eq_12, wE.eq_14, wEs, wDi, wBo, wT, wBt, wIfs, wI, itOf, Z.guard, opW, i2, addW, mulW, eqW_int, eqW_bl, eqW_str, newL_f, newL_t, List.length_nil, List.length_cons, truW, bindT, bindTs, Lit.d, Z.keyOf, isAbs, Z.part, seqOf, lstT, lstOf, List.getElem?_cons_zero, List.getElem?_cons_succ, List.set_cons_zero, List.set_cons_succ, Bool.false_xor, Bool.true_xor, lenW_lst, lenW_tup, idx_fst, idx_snd, put_same, put_put, sz0, sz1, sz2, sz3, sz4, sz5, sz6, sz7, sz8, true_and, and_true, implies_true, beq_true, beq_false, Bool.not_false, Bool.not_true]
  refine ⟨by omega, by omega, fun i e m => ∃ (o : List Int) (a r : Int) (x : Option D), o.Perm ((List.range i).map fun (k : Nat) => (k : Int)) ∧ e = [some (.cell p), some (.int n), some (.cell q), x] ∧ MSub (put M p (penO cells a r)) m ∧ m q = some (.lst (o.map .int)), ?_, ?_, ?_⟩
  · refine ⟨[], a, r, none, .refl _, rfl, ?_, put_same⟩
    rw [put_self hp]
    exact .put hq
  · rintro i x e m hx ⟨o, a, r, y, ho, rfl, hs, hm⟩
    have hi : i < n.toNat := by
      have := (List.getElem?_eq_some_iff.mp hx).1
      simpa [rangeL] using this
    have hx' : x = .int i := by
      simp [rangeL, hi] at hx
      exact hx.symm
    subst hx'
    refine seq_abs fun K2 hK2 => ?_
    simp only [wS.eq_1, wS.eq_2, wS.eq_3, wS.eq_4, wS.eq_5, wS.eq_6, wS.eq_7, wS.eq_8, wS.eq_11, wE.eq_1, wE.eq_2, wE.eq_3, wE.eq_4, wE.eq_5, wE.eq_6, wE.eq_7, wE.eq_8, wE.eq_9, wE.eq_10, wE.eq_11, wE.eq_12, wE.eq_14, wEs, wDi, wBo, wT, wBt, wIfs, wI, itOf, Z.guard, opW, i2, addW, mulW, eqW_int, eqW_bl, eqW_str, newL_f, newL_t, List.length_nil, List.length_cons, truW, bindT, bindTs, Lit.d, Z.keyOf, isAbs, Z.part, seqOf, lstT, lstOf, List.getElem?_cons_zero, List.getElem?_cons_succ, List.set_cons_zero, List.set_cons_succ, Bool.false_xor, Bool.true_xor, lenW_lst, lenW_tup, idx_fst, idx_snd, put_same, put_put, sz0, sz1, sz2, sz3, sz4, sz5, sz6, sz7, sz8, true_and, and_true, implies_true, beq_true, beq_false, Bool.not_false, Bool.not_true]
    refine ⟨⟨q, _, rfl, hm⟩, call_use (draw_spec (msub_pt hs) hc (by omega) (by omega)) (by omega) ?_⟩
    rintro d m' ⟨v, a', r', rfl, g1, g2, rfl⟩
    have hm2 : put m p (penO cells a' r') q = some (.lst (o.map .int)) := by rw [put_ne hqp]; exact hm
    have ol : o.length = i := by simpa using ho.length_eq
    refine ⟨q, _, rfl, hm2, ?_, g1, by omega, hK2 _ _ (seq_nil ?_)⟩
    · have : sizeLine = 2 ^ 24 := rfl
      simp; omega
    · refine ⟨o.take v.toNat ++ [(i : Int)] ++ o.drop v.toNat, a', r', _, ?_, rfl, msub_wr (msub_put3 hs _) (by rw [put_ne hqp]; exact hq) _, ?_⟩
      · rw [List.range_succ, List.map_append]
        have e1 : (o.take v.toNat ++ [(i : Int)] ++ o.drop v.toNat).Perm (o.take v.toNat ++ o.drop v.toNat ++ [(i : Int)]) := by
          rw [List.append_assoc, List.append_assoc]
          exact List.Perm.append_left _ List.perm_append_comm
        rw [List.take_append_drop] at e1
        exact e1.trans (List.Perm.append_right _ ho)
      · rw [put_same]; simp
  · rintro e m ⟨o, a, r, y, ho, rfl, hs, hm⟩
    refine hK1 _ _ ?_
    refine seq_abs fun K2 hK2 => ?_
    simp only [wS.eq_1, wS.eq_2, wS.eq_3, wS.eq_4, wS.eq_5, wS.eq_6, wS.eq_7, wS.eq_8, wS.eq_11, wE.eq_1, wE.eq_2, wE.eq_3, wE.eq_4, wE.eq_5, wE.eq_6, wE.eq_7, wE.eq_8, wE.eq_9, wE.eq_10, wE.eq_11, wE.eq_12, wE.eq_14, wEs, wDi, wBo, wT, wBt, wIfs, wI, itOf, Z.guard, opW, i2, addW, mulW, eqW_int, eqW_bl, eqW_str, newL_f, newL_t, List.length_nil, List.length_cons, truW, bindT, bindTs, Lit.d, Z.keyOf, isAbs, Z.part, seqOf, lstT, lstOf, List.getElem?_cons_zero, List.getElem?_cons_succ, List.set_cons_zero, List.set_cons_succ, Bool.false_xor, Bool.true_xor, lenW_lst, lenW_tup, idx_fst, idx_snd, put_same, put_put, sz0, sz1, sz2, sz3, sz4, sz5, sz6, sz7, sz8, true_and, and_true, implies_true, beq_true, beq_false, Bool.not_false, Bool.not_true]
    refine ⟨.lst (o.map .int), _, hs, fz_lst hm (by rw [put_ne hqp]; exact hq), o, rfl, ?_, a, r, rfl⟩
    simpa [rangeL] using ho
/-- the ties that grow at q -/
def TS (M : MM) (p : Addr) (cells : List Int) (n : Int) (B : Nat) (q : Addr) (m : MM) : Prop :=
  ∃ (ts : List (Int × Int)) (a r : Int), MSub (put M p (penO cells a r)) m ∧ m q = some (.lst (ts.map pr)) ∧ (∀ t ∈ ts, 0 ≤ t.1 ∧ t.1 < n ∧ 0 ≤ t.2 ∧ t.2 < n ∧ t.1 ≠ t.2) ∧ ts.length ≤ B
theorem TS.le {M : MM} {p : Addr} {cells : List Int} {n : Int} {B B' : Nat} {q : Addr} {m : MM} (h : TS M p cells n B q m) (hb : B ≤ B') : TS M p cells n B' q m := by
  obtain ⟨ts, a, r, h1, h2, h3, h4⟩ := h
  exact ⟨ts, a, r, h1, h2, h3, Nat.le_trans h4 hb⟩
theorem ts_other {M : MM} {p : Addr} {cells : List Int} {n : Int} {B : Nat} {q : Addr} {m : MM} (h : TS M p cells n B q m) {x : Addr} (hx : m x = none) : x ≠ q ∧ x ≠ p ∧ M x = none := by
  obtain ⟨ts, a, r, h1, h2, h3, h4⟩ := h
  have e1 : x ≠ p := by rintro rfl; rw [msub_pt h1] at hx; cases hx
  have e2 := MSub.fresh h1 hx
  rw [put_ne e1] at e2
  exact ⟨by rintro rfl; rw [h2] at hx; (cases hx), e1, e2⟩
theorem ts_put {M : MM} {p : Addr} {cells : List Int} {n : Int} {B : Nat} {q : Addr} {m : MM} (h : TS M p cells n B q m) {x : Addr} (hx : x ≠ q ∧ x ≠ p ∧ M x = none) (o : Ob) : TS M p cells n B q (put m x o) := by
  obtain ⟨ts, a, r, h1, h2, h3, h4⟩ := h
  exact ⟨ts, a, r, msub_wr h1 (by rw [put_ne hx.2.1]; exact hx.2.2) _, by rw [put_ne (Ne.symm hx.1)]; exact h2, h3, h4⟩
theorem ts_del {M : MM} {p : Addr} {cells : List Int} {n : Int} {B : Nat} {q : Addr} {m : MM} (h : TS M p cells n B q m) {x : Addr} (hx : x ≠ q ∧ x ≠ p ∧ M x = none) : TS M p cells n B q (del m x) := by
  obtain ⟨ts, a, r, h1, h2, h3, h4⟩ := h
  refine ⟨ts, a, r, fun b o e => ?_, ?_, h3, h4⟩
  · have : b ≠ x := by rintro rfl; rw [put_ne hx.2.1, hx.2.2] at e; cases e
    unfold Z.del
    rw [if_neg this]
    exact h1 _ _ e
  · unfold Z.del
    rw [if_neg (Ne.symm hx.1)]
    exact h2
theorem ties_spec {M : MM} {p : Addr} {cells : List Int} {a r n : Int} (hp : M p = some (penO cells a r)) (hc : cells.length ≤ 63) (h0 : 0 < n) (h1 : n ≤ 64) :
    callN T GG 2 "_law_ties" [.cell p, .int n] M (fun d M' => ∃ ts : List (Int × Int), d = .lst (ts.map pr) ∧ (∀ t ∈ ts, 0 ≤ t.1 ∧ t.1 < n ∧ 0 ≤ t.2 ∧ t.2 < n ∧ t.1 ≠ t.2) ∧ ts.length ≤ 10000 ∧ PenR M p cells M') nX := by
  have hS : sizeLine = 2 ^ 24 := rfl
  refine call_def lk__law_ties ⟨rfl, ?_⟩
  simp only [d__law_ties, startD, List.map_cons, List.map_nil, List.length_cons, List.length_nil, Nat.zero_add, Nat.reduceAdd, Nat.reduceSub, Nat.sub_self, List.replicate_succ, List.replicate_zero, List.cons_append, List.nil_append, List.append_nil]
  refine seq_abs fun K hK => ?_
  simp only [wS.eq_1, wS.eq_2, wS.eq_3, wS.eq_4, wS.eq_5, wS.eq_6, wS.eq_7, wS.eq_8, wS.eq_11, wE.eq_1, wE.eq_2, wE.eq_3, wE.eq_4, wE.eq_5, wE.eq_6, wE.eq_7, wE.eq_8, wE.eq_9, wE.eq_10, wE.eq_11, wE.eq_12, wE.eq_14, wEs, wDi, wBo, wT, wBt, wIfs, wI, itOf, Z.guard, opW, i2, addW, mulW, eqW_int, eqW_bl, eqW_str, newL_f, newL_t, List.length_nil, List.length_cons, truW, bindT, bindTs, Lit.d, Z.keyOf, isAbs, Z.part, seqOf, lstT, lstOf, List.getElem?_cons_zero, List.getElem?_cons_succ, List.set_cons_zero, List.set_cons_succ, Bool.false_xor, Bool.true_xor, lenW_lst, lenW_tup, idx_fst, idx_snd, put_same, put_put, sz0, sz1, sz2, sz3, sz4, sz5, sz6, sz7, sz8, true_and, and_true, implies_true, beq_true, beq_false, Bool.not_false, Bool.not_true]
  refine call_use (draw_spec hp hc (by omega) (by omega)) (by omega) ?_
  rintro _ _ ⟨sh, a1, r1, rfl, -, -, rfl⟩
  refine hK _ _ ?_
  clear hK K
  refine seq_abs fun K hK => ?_
  simp only [wS.eq_1, wS.eq_2, wS.eq_3, wS.eq_4, wS.eq_5, wS.eq_6, wS.eq_7, wS.eq_8, wS.eq_11, wE.eq_1, wE.eq_2, wE.eq_3, wE.eq_4, wE.eq_5, wE.eq_6, wE.eq_7, wE.eq_8, wE.eq_9, wE.eq_10, wE.eq_11, wE.eq_12, wE.eq_14, wEs, wDi, wBo, wT, wBt, wIfs, wI, itOf, Z.guard, opW, i2, addW, mulW, eqW_int, eqW_bl, eqW_str, newL_f, newL_t, List.length_nil, List.length_cons, truW, bindT, bindTs, Lit.d, Z.keyOf, isAbs, Z.part, seqOf, lstT, lstOf, List.getElem?_cons_zero, List.getElem?_cons_succ, List.set_cons_zero, List.set_cons_succ, Bool.false_xor, Bool.true_xor, lenW_lst, lenW_tup, idx_fst, idx_snd, put_same, put_put, sz0, sz1, sz2, sz3, sz4, sz5, sz6, sz7, sz8, true_and, and_true, implies_true, beq_true, beq_false, Bool.not_false, Bool.not_true]
  refine fun q hq => hK _ _ ?_
  have hqp : q ≠ p := by rintro rfl; rw [put_same] at hq; cases hq
  have hMq : M q = none := by rw [put_ne hqp] at hq; exact hq
  have t0 : TS M p cells n 0 q (put (put M p (penO cells a1 r1)) q (.lst [])) := ⟨[], a1, r1, .put hq, put_same, by simp, Nat.le_refl _⟩
  generalize put (put M p (penO cells a1 r1)) q (.lst []) = m at t0 ⊢
  clear hK K hq
  -- what a turn does with the ties
  have app' : ∀ (q : Addr) (hqp : q ≠ p) (hMq : M q = none) {B : Nat} {m : MM} {t : Int × Int}, TS M p cells n B q m → B < sizeLine → (0 ≤ t.1 ∧ t.1 < n ∧ 0 ≤ t.2 ∧ t.2 < n ∧ t.1 ≠ t.2) → ∀ {Q : PQ}, (∀ m', TS M p cells n (B + 1) q m' → Q .non m') → mtW .append (.cell q) [pr t] m Q := by
    rintro q hqp hMq B m t ⟨ts, a, r, g1, g2, g3, g4⟩ hB ht Q hq
    refine ⟨q, _, rfl, g2, by simp; omega, hq _ ⟨ts ++ [t], a, r, msub_wr g1 (by rw [put_ne hqp]; exact hMq) _, by rw [put_same]; simp, ?_, by simp; omega⟩⟩
    intro u hu
    rcases List.mem_append.mp hu with hu | hu
    · exact g3 u hu
    · rw [List.mem_singleton.mp hu]; exact ht
  have ext' : ∀ (q : Addr) (hqp : q ≠ p) (hMq : M q = none) {B C : Nat} {m : MM} {us : List (Int × Int)}, TS M p cells n B q m → B + C ≤ sizeLine → us.length ≤ C → (∀ t ∈ us, 0 ≤ t.1 ∧ t.1 < n ∧ 0 ≤ t.2 ∧ t.2 < n ∧ t.1 ≠ t.2) → ∀ {Q : PQ}, (∀ m', TS M p cells n (B + C) q m' → Q .non m') → mtW .extend (.cell q) [.lst (us.map pr)] m Q := by
    rintro q hqp hMq B C m us ⟨ts, a, r, g1, g2, g3, g4⟩ hB hl hu Q hq
    refine ⟨q, _, rfl, g2, by simp; omega, hq _ ⟨ts ++ us, a, r, msub_wr g1 (by rw [put_ne hqp]; exact hMq) _, by rw [put_same]; simp, ?_, by simp; omega⟩⟩
    intro u hu'
    rcases List.mem_append.mp hu' with hu' | hu'
    · exact g3 u hu'
    · exact hu u hu'
  have ty' : ∀ (q : Addr) (hqp : q ≠ p) (hMq : M q = none) {B : Nat} {m : MM}, TS M p cells n B q m → ∀ mt : Mt, mtTy mt (.cell q) m := by
    rintro q hqp hMq B m ⟨ts, a, r, g1, g2, g3, g4⟩ mt
    exact ⟨q, _, rfl, g2⟩
  have drw' : ∀ (q : Addr) (hqp : q ≠ p) (hMq : M q = none) {B : Nat} {m : MM} {k : Nat} {v : Int}, TS M p cells n B q m → 1 ≤ k → 0 < v → v < 1000000 → ∀ {Q : PQ} {E : XQ}, (∀ (x : Int) (m' : MM), 0 ≤ x → x < v → TS M p cells n B q m' → (∀ b, b ≠ p → m' b = m b) → Q (.int x) m') → callN T GG k "_law_draw" [.cell p, .int v] m Q E := by
    rintro q hqp hMq B m k v ⟨ts, a, r, g1, g2, g3, g4⟩ hk hv hv2 Q E hq
    refine call_use (draw_spec (msub_pt g1) hc hv (by omega)) hk ?_
    rintro _ _ ⟨x, a2, r2, rfl, e1, e2, rfl⟩
    exact hq x _ e1 e2 ⟨ts, a2, r2, msub_put3 g1 _, by rw [put_ne hqp]; exact g2, g3, g4⟩ fun b h => put_ne h
  have app := @app' q hqp hMq
  have ext := @ext' q hqp hMq
  have ty := @ty' q hqp hMq
  have drw := @drw' q hqp hMq
  refine seq_abs fun K hK => ?_
  have hk : ∀ m' x, TS M p cells n (64 * 66) q m' → K [some (.cell p), some (.int n), some (.int sh), some (.cell q), x, none, none, none] m' := by
    clear t0 m
    intro m x ht
    refine hK _ _ ?_
    clear hK K
    refine seq_abs fun K1 hK1 => ?_
    have c1 : ∀ m', TS M p cells n (64 * 66 + 1) q m' → K1 [some (.cell p), some (.int n), some (.int sh), some (.cell q), x, none, none, none] m' := by
      intro m ht
      refine hK1 _ _ ?_
      clear hK1
      refine seq_abs fun K2 hK2 => ?_
      have c2 : ∀ m' s t, TS M p cells n (64 * 66 + 129) q m' → K2 [some (.cell p), some (.int n), some (.int sh), some (.cell q), x, s, t, none] m' := by
        intro m s t ht
        refine hK2 _ _ ?_
        clear hK2
        refine seq_abs fun K3 hK3 => ?_
        have c3 : ∀ q m', q ≠ p → M q = none → TS M p cells n (64 * 66 + 129) q m' → K3 [some (.cell p), some (.int n), some (.int sh), some (.cell q), x, s, t, none] m' := by
          clear ht m
          intro q m hqp hMq ht
          have app := @app' q hqp hMq
          have ext := @ext' q hqp hMq
          have ty := @ty' q hqp hMq
          have drw := @drw' q hqp hMq
          refine hK3 _ _ ?_
          clear hK3
          refine seq_abs fun K4 hK4 => ?_
          have hk4 : ∀ m' y, TS M p cells n (64 * 66 + 129 + 13) q m' → K4 [some (.cell p), some (.int n), some (.int sh), some (.cell q), y, s, t, none] m' := by
            rintro m y ⟨ts, a, r, g1, g2, g3, g4⟩
            refine hK4 _ _ ?_
            refine seq_abs fun K5 hK5 => ?_
            simp only [wS.eq_1, wS.eq_2, wS.eq_3, wS.eq_4, wS.eq_5, wS.eq_6, wS.eq_7, wS.eq_8, wS.eq_11, wE.eq_1, wE.eq_2, wE.eq_3, wE.eq_4, wE.eq_5, wE.eq_6, wE.eq_7, wE.eq_8, wE.eq_9, wE.eq_10, wE.eq_11, wE.eq_12, wE.eq_14, wEs, wDi, wBo, wT, wBt, wIfs, wI, itOf, Z.guard, opW, i2, addW, mulW, eqW_int, eqW_bl, eqW_str, newL_f, newL_t, List.length_nil, List.length_cons, truW, bindT, bindTs, Lit.d, Z.keyOf, isAbs, Z.part, seqOf, lstT, lstOf, List.getElem?_cons_zero, List.getElem?_cons_succ, List.set_cons_zero, List.set_cons_succ, Bool.false_xor, Bool.true_xor, lenW_lst, lenW_tup, idx_fst, idx_snd, put_same, put_put, sz0, sz1, sz2, sz3, sz4, sz5, sz6, sz7, sz8, true_and, and_true, implies_true, beq_true, beq_false, Bool.not_false, Bool.not_true]
            exact ⟨.lst (ts.map pr), _, g1, fz_lst g2 (by rw [put_ne hqp]; exact hMq), ts, rfl, g3, by omega, a, r, rfl⟩
          clear hK4
          refine for_rule (callN_mono _) ?_
          simp only [wS.eq_1, wS.eq_2, wS.eq_3, wS.eq_4, wS.eq_5, wS.eq_6, wS.eq_7, wS.eq_8, wS.eq_11, wE.eq_1, wE.eq_2, wE.eq_3, wE.eq_4, wE.eq_5, wE.eq_6, wE.eq_7, wE.eq_8, wE.eq_9, wE.eq_10, wE.eq_11, wE.eq_12, wE.eq_14, wEs, wDi, wBo, wT, wBt, wIfs, wI, itOf, Z.guard, opW, i2, addW, mulW, eqW_int, eqW_bl, eqW_str, newL_f, newL_t, List.length_nil, List.length_cons, truW, bindT, bindTs, Lit.d, Z.keyOf, isAbs, Z.part, seqOf, lstT, lstOf, List.getElem?_cons_zero, List.getElem?_cons_succ, List.set_cons_zero, List.set_cons_succ, Bool.false_xor, Bool.true_xor, lenW_lst, lenW_tup, idx_fst, idx_snd, put_same, put_put, sz0, sz1, sz2, sz3, sz4, sz5, sz6, sz7, sz8, true_and, and_true, implies_true, beq_true, beq_false, Bool.not_false, Bool.not_true]
          refine drw ht (by omega) (by omega) (by omega) fun v m1 v0 v1 t1 _ => ?_
          have hix : ∃ w, ixD [D.int 3, .int 1, .int 6, .int 13] v = some (.int w) ∧ 0 < w ∧ w ≤ 13 := by
            rw [ixD_of v0]
            obtain ⟨k, rfl⟩ := Int.eq_ofNat_of_zero_le v0
            have : k < 4 := by omega
            match k, this with
            | 0, _ => exact ⟨3, rfl, by decide, by decide⟩
            | 1, _ => exact ⟨1, rfl, by decide, by decide⟩
            | 2, _ => exact ⟨6, rfl, by decide, by decide⟩
            | 3, _ => exact ⟨13, rfl, by decide, by decide⟩
          obtain ⟨w, hw, w0, w1⟩ := hix
          simp only [idxW_lst, hw]
          refine ⟨_, rfl, drw t1 (by omega) w0 (by omega) fun c m2 c0 c1 t2 _ => ?_⟩
          refine ⟨by omega, by omega, fun i e m => i ≤ 13 ∧ ∃ y, e = [some (.cell p), some (.int n), some (.int sh), some (.cell q), y, s, t, none] ∧ TS M p cells n (64 * 66 + 129 + i) q m, ⟨by omega, _, rfl, t2⟩, ?_, ?_⟩
          · rintro i z e m hz ⟨hi, y, rfl, ht⟩
            obtain ⟨hi2, rfl⟩ := rangeL_get hz
            refine seq_abs fun K5 hK5 => ?_
            have c5 : ∀ m' y, TS M p cells n (64 * 66 + 129 + (i + 1)) q m' → K5 [some (.cell p), some (.int n), some (.int sh), some (.cell q), y, s, t, none] m' := fun m y ht => hK5 _ _ (seq_nil ⟨by omega, _, rfl, ht⟩)
            simp only [wS.eq_1, wS.eq_2, wS.eq_3, wS.eq_4, wS.eq_5, wS.eq_6, wS.eq_7, wS.eq_8, wS.eq_11, wE.eq_1, wE.eq_2, wE.eq_3, wE.eq_4, wE.eq_5, wE.eq_6, wE.eq_7, wE.eq_8, wE.eq_9, wE.eq_10, wE.eq_11, wE.eq_12, wE.eq_14, wEs, wDi, wBo, wT, wBt, wIfs, wI, itOf, Z.guard, opW, i2, addW, mulW, eqW_int, eqW_bl, eqW_str, newL_f, newL_t, List.length_nil, List.length_cons, truW, bindT, bindTs, Lit.d, Z.keyOf, isAbs, Z.part, seqOf, lstT, lstOf, List.getElem?_cons_zero, List.getElem?_cons_succ, List.set_cons_zero, List.set_cons_succ, Bool.false_xor, Bool.true_xor, lenW_lst, lenW_tup, idx_fst, idx_snd, put_same, put_put, sz0, sz1, sz2, sz3, sz4, sz5, sz6, sz7, sz8, true_and, and_true, implies_true, beq_true, beq_false, Bool.not_false, Bool.not_true]
            obtain ⟨ts, a, r, g1, g2, g3, g4⟩ := ht
            have ht : TS M p cells n (64 * 66 + 129 + i) q m := ⟨ts, a, r, g1, g2, g3, g4⟩
            refine eqW_cellL (α := Int × Int) (by decide) (xs := ts) (ys := []) g2 ?_
            simp only [Bool.true_xor]
            by_cases hts : ts = []
            · simp only [hts, decide_true, Bool.not_true]
              exact seq_nil (c5 _ _ (ht.le (by omega)))
            · simp only [hts, decide_false, Bool.not_false]
              refine seq_abs fun K6 hK6 => ?_
              simp only [wS.eq_1, wS.eq_2, wS.eq_3, wS.eq_4, wS.eq_5, wS.eq_6, wS.eq_7, wS.eq_8, wS.eq_11, wE.eq_1, wE.eq_2, wE.eq_3, wE.eq_4, wE.eq_5, wE.eq_6, wE.eq_7, wE.eq_8, wE.eq_9, wE.eq_10, wE.eq_11, wE.eq_12, wE.eq_14, wEs, wDi, wBo, wT, wBt, wIfs, wI, itOf, Z.guard, opW, i2, addW, mulW, eqW_int, eqW_bl, eqW_str, newL_f, newL_t, List.length_nil, List.length_cons, truW, bindT, bindTs, Lit.d, Z.keyOf, isAbs, Z.part, seqOf, lstT, lstOf, List.getElem?_cons_zero, List.getElem?_cons_succ, List.set_cons_zero, List.set_cons_succ, Bool.false_xor, Bool.true_xor, lenW_lst, lenW_tup, idx_fst, idx_snd, put_same, put_put, sz0, sz1, sz2, sz3, sz4, sz5, sz6, sz7, sz8, true_and, and_true, implies_true, beq_true, beq_false, Bool.not_false, Bool.not_true, lenW_cell g2]
              have hl : 0 < ts.length := List.length_pos_iff.mpr hts
              refine ⟨ty ht _, drw ht (by omega) (by simp; omega) (by simp; omega) fun u m3 u0 u1 t3 k3 => ?_⟩
              have g2' : m3 q = some (.lst (ts.map pr)) := by rw [k3 _ hqp]; exact g2
              rw [List.length_map] at u1
              have hu : u.toNat < ts.length := by omega
              rw [idxW_cell g2']
              refine ⟨_, (ixD_of u0).trans (by rw [List.getElem?_map, List.getElem?_eq_getElem hu]; rfl), ?_⟩
              exact app t3 (by omega) (g3 _ (List.getElem_mem hu)) fun m' ht => hK6 _ _ (seq_nil (c5 _ _ ht))
          · rintro e m ⟨hi, y, rfl, ht⟩
            refine hk4 _ _ (ht.le ?_)
            rw [rangeL_len] at hi ⊢
            omega
        simp only [wS.eq_1, wS.eq_2, wS.eq_3, wS.eq_4, wS.eq_5, wS.eq_6, wS.eq_7, wS.eq_8, wS.eq_11, wE.eq_1, wE.eq_2, wE.eq_3, wE.eq_4, wE.eq_5, wE.eq_6, wE.eq_7, wE.eq_8, wE.eq_9, wE.eq_10, wE.eq_11, wE.eq_12, wE.eq_14, wEs, wDi, wBo, wT, wBt, wIfs, wI, itOf, Z.guard, opW, i2, addW, mulW, eqW_int, eqW_bl, eqW_str, newL_f, newL_t, List.length_nil, List.length_cons, truW, bindT, bindTs, Lit.d, Z.keyOf, isAbs, Z.part, seqOf, lstT, lstOf, List.getElem?_cons_zero, List.getElem?_cons_succ, List.set_cons_zero, List.set_cons_succ, Bool.false_xor, Bool.true_xor, lenW_lst, lenW_tup, idx_fst, idx_snd, put_same, put_put, sz0, sz1, sz2, sz3, sz4, sz5, sz6, sz7, sz8, true_and, and_true, implies_true, beq_true, beq_false, Bool.not_false, Bool.not_true]
        split
        · refine seq_abs fun K4 hK4 => ?_
          simp only [wS.eq_1, wS.eq_2, wS.eq_3, wS.eq_4, wS.eq_5, wS.eq_6, wS.eq_7, wS.eq_8, wS.eq_11, wE.eq_1, wE.eq_2, wE.eq_3, wE.eq_4, wE.eq_5, wE.eq_6, wE.eq_7, wE.eq_8, wE.eq_9, wE.eq_10, wE.eq_11, wE.eq_12, wE.eq_14, wEs, wDi, wBo, wT, wBt, wIfs, wI, itOf, Z.guard, opW, i2, addW, mulW, eqW_int, eqW_bl, eqW_str, newL_f, newL_t, List.length_nil, List.length_cons, truW, bindT, bindTs, Lit.d, Z.keyOf, isAbs, Z.part, seqOf, lstT, lstOf, List.getElem?_cons_zero, List.getElem?_cons_succ, List.set_cons_zero, List.set_cons_succ, Bool.false_xor, Bool.true_xor, lenW_lst, lenW_tup, idx_fst, idx_snd, put_same, put_put, sz0, sz1, sz2, sz3, sz4, sz5, sz6, sz7, sz8, true_and, and_true, implies_true, beq_true, beq_false, Bool.not_false, Bool.not_true]
          refine comp_inv (callN_mono _) ?_
          obtain ⟨ts, a, r, g1, g2, g3, g4⟩ := ht
          simp only [wS.eq_1, wS.eq_2, wS.eq_3, wS.eq_4, wS.eq_5, wS.eq_6, wS.eq_7, wS.eq_8, wS.eq_11, wE.eq_1, wE.eq_2, wE.eq_3, wE.eq_4, wE.eq_5, wE.eq_6, wE.eq_7, wE.eq_8, wE.eq_9, wE.eq_10, wE.eq_11, wE.eq_12, wE.eq_14, wEs, wDi, wBo, wT, wBt, wIfs, wI, itOf, Z.guard, opW, i2, addW, mulW, eqW_int, eqW_bl, eqW_str, newL_f, newL_t, List.length_nil, List.length_cons, truW, bindT, bindTs, Lit.d, Z.keyOf, isAbs, Z.part, seqOf, lstT, lstOf, List.getElem?_cons_zero, List.getElem?_cons_succ, List.set_cons_zero, List.set_cons_succ, Bool.false_xor, Bool.true_xor, lenW_lst, lenW_tup, idx_fst, idx_snd, put_same, put_put, sz0, sz1, sz2, sz3, sz4, sz5, sz6, sz7, sz8, true_and, and_true, implies_true, beq_true, beq_false, Bool.not_false, Bool.not_true, g2]
          refine ⟨by simp; omega, fun q2 hq2 => ?_⟩
          have ht : TS M p cells n (64 * 66 + 129) q m := ⟨ts, a, r, g1, g2, g3, g4⟩
          have hx := ts_other ht hq2
          refine ⟨fun i acc m => ∃ us : List (Int × Int), acc = us.map pr ∧ us.length ≤ i ∧ m q = some (.lst (ts.map pr)) ∧ TS M p cells n i q2 m ∧ m q2 = some (.lst (us.map pr)) ∧ (∀ t ∈ us, t ∈ ts), ⟨[], rfl, Nat.le_refl _, by rw [put_ne (Ne.symm hx.1)]; exact g2, ⟨[], a, r, msub_wr g1 (by rw [put_ne hx.2.1]; exact hx.2.2) _, put_same, by simp, Nat.le_refl _⟩, put_same, by simp⟩, ?_, ?_, ?_⟩
          · rintro i acc m ⟨us, rfl, h1, h2, h3, h4, h5⟩
            exact ⟨h2, h4, by simpa using h1⟩
          · rintro i z acc m hz ⟨us, rfl, h1, h2, h3, h4, h5⟩
            rw [List.getElem?_map] at hz
            cases hy : ts[i]? with
            | none => rw [hy] at hz; cases hz
            | some t =>
              rw [hy] at hz
              cases hz
              have hmem := List.mem_of_getElem? hy
              have hcd : CDiv n 2 = True := eq_true ⟨by decide, by decide⟩
              simp only [tgSlots, wipeD, pr, hcd, wS.eq_1, wS.eq_2, wS.eq_3, wS.eq_4, wS.eq_5, wS.eq_6, wS.eq_7, wS.eq_8, wS.eq_11, wE.eq_1, wE.eq_2, wE.eq_3, wE.eq_4, wE.eq_5, wE.eq_6, wE.eq_7, wE.eq_8, wE.eq_9, wE.eq_10, wE.eq_11, wE.eq_12, wE.eq_14, wEs, wDi, wBo, wT, wBt, wIfs, wI, itOf, Z.guard, opW, i2, addW, mulW, eqW_int, eqW_bl, eqW_str, newL_f, newL_t, List.length_nil, List.length_cons, truW, bindT, bindTs, Lit.d, Z.keyOf, isAbs, Z.part, seqOf, lstT, lstOf, List.getElem?_cons_zero, List.getElem?_cons_succ, List.set_cons_zero, List.set_cons_succ, Bool.false_xor, Bool.true_xor, lenW_lst, lenW_tup, idx_fst, idx_snd, put_same, put_put, sz0, sz1, sz2, sz3, sz4, sz5, sz6, sz7, sz8, true_and, and_true, implies_true, beq_true, beq_false, Bool.not_false, Bool.not_true]
              split
              · obtain ⟨ts', a', r', z1, z2, z3, z4⟩ := h3
                rw [h4] at z2
                have e : us = ts' := by
                  have := Option.some.inj z2
                  have := congrArg (fun o => match o with | Ob.lst l => pairsOf l | _ => none) this
                  simpa using this
                subst e
                refine ⟨h4, us ++ [t], by simp [pr], by simp; omega, by rw [put_ne (Ne.symm hx.1)]; exact h2, ⟨us ++ [t], a', r', msub_wr z1 (by rw [put_ne hx.2.1]; exact hx.2.2) _, by simp [pr], ?_, by simp; omega⟩, by simp [pr], ?_⟩
                · intro u hu
                  rcases List.mem_append.mp hu with hu | hu
                  · exact z3 u hu
                  · rw [List.mem_singleton.mp hu]; exact g3 t hmem
                · intro u hu
                  rcases List.mem_append.mp hu with hu | hu
                  · exact h5 u hu
                  · rw [List.mem_singleton.mp hu]; exact hmem
              · refine ⟨us, rfl, by omega, h2, h3.le (by omega), h4, h5⟩
          · rintro acc m ⟨us, rfl, h1, h2, h3, h4, h5⟩
            rw [List.length_map] at h3
            exact hK4 _ _ (seq_nil (c3 _ _ hx.2.1 hx.2.2 (h3.le (by omega))))
        · exact seq_nil (c3 _ _ hqp hMq ht)
      simp only [wS.eq_1, wS.eq_2, wS.eq_3, wS.eq_4, wS.eq_5, wS.eq_6, wS.eq_7, wS.eq_8, wS.eq_11, wE.eq_1, wE.eq_2, wE.eq_3, wE.eq_4, wE.eq_5, wE.eq_6, wE.eq_7, wE.eq_8, wE.eq_9, wE.eq_10, wE.eq_11, wE.eq_12, wE.eq_14, wEs, wDi, wBo, wT, wBt, wIfs, wI, itOf, Z.guard, opW, i2, addW, mulW, eqW_int, eqW_bl, eqW_str, newL_f, newL_t, List.length_nil, List.length_cons, truW, bindT, bindTs, Lit.d, Z.keyOf, isAbs, Z.part, seqOf, lstT, lstOf, List.getElem?_cons_zero, List.getElem?_cons_succ, List.set_cons_zero, List.set_cons_succ, Bool.false_xor, Bool.true_xor, lenW_lst, lenW_tup, idx_fst, idx_snd, put_same, put_put, sz0, sz1, sz2, sz3, sz4, sz5, sz6, sz7, sz8, true_and, and_true, implies_true, beq_true, beq_false, Bool.not_false, Bool.not_true]
      refine in_ints (ns := [4, 6, 7]) (by rfl) ?_
      simp only [Bool.false_xor]
      split
      · refine seq_abs fun K4 hK4 => ?_
        simp only [wS.eq_1, wS.eq_2, wS.eq_3, wS.eq_4, wS.eq_5, wS.eq_6, wS.eq_7, wS.eq_8, wS.eq_11, wE.eq_1, wE.eq_2, wE.eq_3, wE.eq_4, wE.eq_5, wE.eq_6, wE.eq_7, wE.eq_8, wE.eq_9, wE.eq_10, wE.eq_11, wE.eq_12, wE.eq_14, wEs, wDi, wBo, wT, wBt, wIfs, wI, itOf, Z.guard, opW, i2, addW, mulW, eqW_int, eqW_bl, eqW_str, newL_f, newL_t, List.length_nil, List.length_cons, truW, bindT, bindTs, Lit.d, Z.keyOf, isAbs, Z.part, seqOf, lstT, lstOf, List.getElem?_cons_zero, List.getElem?_cons_succ, List.set_cons_zero, List.set_cons_succ, Bool.false_xor, Bool.true_xor, lenW_lst, lenW_tup, idx_fst, idx_snd, put_same, put_put, sz0, sz1, sz2, sz3, sz4, sz5, sz6, sz7, sz8, true_and, and_true, implies_true, beq_true, beq_false, Bool.not_false, Bool.not_true]
        refine comp_inv (callN_mono _) ?_
        simp only [wS.eq_1, wS.eq_2, wS.eq_3, wS.eq_4, wS.eq_5, wS.eq_6, wS.eq_7, wS.eq_8, wS.eq_11, wE.eq_1, wE.eq_2, wE.eq_3, wE.eq_4, wE.eq_5, wE.eq_6, wE.eq_7, wE.eq_8, wE.eq_9, wE.eq_10, wE.eq_11, wE.eq_12, wE.eq_14, wEs, wDi, wBo, wT, wBt, wIfs, wI, itOf, Z.guard, opW, i2, addW, mulW, eqW_int, eqW_bl, eqW_str, newL_f, newL_t, List.length_nil, List.length_cons, truW, bindT, bindTs, Lit.d, Z.keyOf, isAbs, Z.part, seqOf, lstT, lstOf, List.getElem?_cons_zero, List.getElem?_cons_succ, List.set_cons_zero, List.set_cons_succ, Bool.false_xor, Bool.true_xor, lenW_lst, lenW_tup, idx_fst, idx_snd, put_same, put_put, sz0, sz1, sz2, sz3, sz4, sz5, sz6, sz7, sz8, true_and, and_true, implies_true, beq_true, beq_false, Bool.not_false, Bool.not_true]
        refine ⟨.inl ⟨by decide, by decide⟩, drw ht (by omega) (by omega) (by omega) fun y m' e1 e2 ht' _ => ?_⟩
        refine ⟨by omega, by omega, by rw [rangeL_len]; omega, fun p' hp' => ?_⟩
        have hx := ts_other ht' hp'
        refine ⟨fun i acc m => ∃ us : List (Int × Int), acc = us.map pr ∧ us.length = i ∧ (∀ t ∈ us, 0 ≤ t.1 ∧ t.1 < n ∧ 0 ≤ t.2 ∧ t.2 < n) ∧ m p' = some (.lst (us.map pr)) ∧ TS M p cells n (64 * 66 + 1) q m,
          ⟨[], rfl, rfl, by simp, put_same, ts_put ht' hx _⟩, ?_, ?_, ?_⟩
        · rintro i acc m ⟨us, rfl, g1, g2, g3, g4⟩
          exact ⟨g3, by simp [g1]⟩
        · rintro i z acc m hz ⟨us, rfl, g1, g2, g3, g4⟩
          simp only [tgSlots, wipeD, wS.eq_1, wS.eq_2, wS.eq_3, wS.eq_4, wS.eq_5, wS.eq_6, wS.eq_7, wS.eq_8, wS.eq_11, wE.eq_1, wE.eq_2, wE.eq_3, wE.eq_4, wE.eq_5, wE.eq_6, wE.eq_7, wE.eq_8, wE.eq_9, wE.eq_10, wE.eq_11, wE.eq_12, wE.eq_14, wEs, wDi, wBo, wT, wBt, wIfs, wI, itOf, Z.guard, opW, i2, addW, mulW, eqW_int, eqW_bl, eqW_str, newL_f, newL_t, List.length_nil, List.length_cons, truW, bindT, bindTs, Lit.d, Z.keyOf, isAbs, Z.part, seqOf, lstT, lstOf, List.getElem?_cons_zero, List.getElem?_cons_succ, List.set_cons_zero, List.set_cons_succ, Bool.false_xor, Bool.true_xor, lenW_lst, lenW_tup, idx_fst, idx_snd, put_same, put_put, sz0, sz1, sz2, sz3, sz4, sz5, sz6, sz7, sz8, true_and, and_true, implies_true, beq_true, beq_false, Bool.not_false, Bool.not_true]
          refine drw g4 (by omega) (by omega) (by omega) fun v1 m1 v1a v1b t1 k1 => ?_
          refine drw t1 (by omega) (by omega) (by omega) fun v2 m2 v2a v2b t2 k2 => ?_
          refine ⟨by rw [k2 _ hx.2.1, k1 _ hx.2.1]; exact g3, us ++ [(v1, v2)], by simp [pr], by simp [g1], ?_, by simp [pr], ts_put t2 hx _⟩
          intro t ht
          rcases List.mem_append.mp ht with ht | ht
          · exact g2 t ht
          · rw [List.mem_singleton.mp ht]; exact ⟨v1a, v1b, v2a, v2b⟩
        · rintro acc m ⟨us, rfl, g1, g2, g3, g4⟩
          have t5 := ts_del g4 hx
          have hul : us.length ≤ 128 := by
            rw [rangeL_len] at g1
            omega
          generalize del m p' = m5 at t5 ⊢
          refine hK4 _ _ ?_
          refine seq_abs fun K5 hK5 => ?_
          simp only [wS.eq_1, wS.eq_2, wS.eq_3, wS.eq_4, wS.eq_5, wS.eq_6, wS.eq_7, wS.eq_8, wS.eq_11, wE.eq_1, wE.eq_2, wE.eq_3, wE.eq_4, wE.eq_5, wE.eq_6, wE.eq_7, wE.eq_8, wE.eq_9, wE.eq_10, wE.eq_11, wE.eq_12, wE.eq_14, wEs, wDi, wBo, wT, wBt, wIfs, wI, itOf, Z.guard, opW, i2, addW, mulW, eqW_int, eqW_bl, eqW_str, newL_f, newL_t, List.length_nil, List.length_cons, truW, bindT, bindTs, Lit.d, Z.keyOf, isAbs, Z.part, seqOf, lstT, lstOf, List.getElem?_cons_zero, List.getElem?_cons_succ, List.set_cons_zero, List.set_cons_succ, Bool.false_xor, Bool.true_xor, lenW_lst, lenW_tup, idx_fst, idx_snd, put_same, put_put, sz0, sz1, sz2, sz3, sz4, sz5, sz6, sz7, sz8, true_and, and_true, implies_true, beq_true, beq_false, Bool.not_false, Bool.not_true]
          refine ⟨ty t5 _, comp_map pr (callN_mono _) ?_⟩
          simp only [wS.eq_1, wS.eq_2, wS.eq_3, wS.eq_4, wS.eq_5, wS.eq_6, wS.eq_7, wS.eq_8, wS.eq_11, wE.eq_1, wE.eq_2, wE.eq_3, wE.eq_4, wE.eq_5, wE.eq_6, wE.eq_7, wE.eq_8, wE.eq_9, wE.eq_10, wE.eq_11, wE.eq_12, wE.eq_14, wEs, wDi, wBo, wT, wBt, wIfs, wI, itOf, Z.guard, opW, i2, addW, mulW, eqW_int, eqW_bl, eqW_str, newL_f, newL_t, List.length_nil, List.length_cons, truW, bindT, bindTs, Lit.d, Z.keyOf, isAbs, Z.part, seqOf, lstT, lstOf, List.getElem?_cons_zero, List.getElem?_cons_succ, List.set_cons_zero, List.set_cons_succ, Bool.false_xor, Bool.true_xor, lenW_lst, lenW_tup, idx_fst, idx_snd, put_same, put_put, sz0, sz1, sz2, sz3, sz4, sz5, sz6, sz7, sz8, true_and, and_true, implies_true, beq_true, beq_false, Bool.not_false, Bool.not_true]
          refine ⟨us, fun t => !decide (t.1 = t.2), pr, rfl, by omega, ?_, ?_⟩
          · intro t ht M2 _
            simp only [tgSlots, wipeD, pr, wS.eq_1, wS.eq_2, wS.eq_3, wS.eq_4, wS.eq_5, wS.eq_6, wS.eq_7, wS.eq_8, wS.eq_11, wE.eq_1, wE.eq_2, wE.eq_3, wE.eq_4, wE.eq_5, wE.eq_6, wE.eq_7, wE.eq_8, wE.eq_9, wE.eq_10, wE.eq_11, wE.eq_12, wE.eq_14, wEs, wDi, wBo, wT, wBt, wIfs, wI, itOf, Z.guard, opW, i2, addW, mulW, eqW_int, eqW_bl, eqW_str, newL_f, newL_t, List.length_nil, List.length_cons, truW, bindT, bindTs, Lit.d, Z.keyOf, isAbs, Z.part, seqOf, lstT, lstOf, List.getElem?_cons_zero, List.getElem?_cons_succ, List.set_cons_zero, List.set_cons_succ, Bool.false_xor, Bool.true_xor, lenW_lst, lenW_tup, idx_fst, idx_snd, put_same, put_put, sz0, sz1, sz2, sz3, sz4, sz5, sz6, sz7, sz8, true_and, and_true, implies_true, beq_true, beq_false, Bool.not_false, Bool.not_true]
          · refine ext (C := 128) t5 (by omega) (Nat.le_trans (List.length_filter_le _ _) hul) ?_ fun m' ht => hK5 _ _ (seq_nil (c2 _ _ _ ht))
            intro t ht
            obtain ⟨h1, h2⟩ := List.mem_filter.mp ht
            obtain ⟨z1, z2, z3, z4⟩ := g2 t h1
            exact ⟨z1, z2, z3, z4, by simpa using h2⟩
      · exact seq_nil (c2 _ _ _ (ht.le (by omega)))
    simp only [wS.eq_1, wS.eq_2, wS.eq_3, wS.eq_4, wS.eq_5, wS.eq_6, wS.eq_7, wS.eq_8, wS.eq_11, wE.eq_1, wE.eq_2, wE.eq_3, wE.eq_4, wE.eq_5, wE.eq_6, wE.eq_7, wE.eq_8, wE.eq_9, wE.eq_10, wE.eq_11, wE.eq_12, wE.eq_14, wEs, wDi, wBo, wT, wBt, wIfs, wI, itOf, Z.guard, opW, i2, addW, mulW, eqW_int, eqW_bl, eqW_str, newL_f, newL_t, List.length_nil, List.length_cons, truW, bindT, bindTs, Lit.d, Z.keyOf, isAbs, Z.part, seqOf, lstT, lstOf, List.getElem?_cons_zero, List.getElem?_cons_succ, List.set_cons_zero, List.set_cons_succ, Bool.false_xor, Bool.true_xor, lenW_lst, lenW_tup, idx_fst, idx_snd, put_same, put_put, sz0, sz1, sz2, sz3, sz4, sz5, sz6, sz7, sz8, true_and, and_true, implies_true, beq_true, beq_false, Bool.not_false, Bool.not_true]
    split
    · split
      · rename_i hn
        simp only [decide_eq_true_eq] at hn
        refine seq_abs fun K4 hK4 => ?_
        simp only [wS.eq_1, wS.eq_2, wS.eq_3, wS.eq_4, wS.eq_5, wS.eq_6, wS.eq_7, wS.eq_8, wS.eq_11, wE.eq_1, wE.eq_2, wE.eq_3, wE.eq_4, wE.eq_5, wE.eq_6, wE.eq_7, wE.eq_8, wE.eq_9, wE.eq_10, wE.eq_11, wE.eq_12, wE.eq_14, wEs, wDi, wBo, wT, wBt, wIfs, wI, itOf, Z.guard, opW, i2, addW, mulW, eqW_int, eqW_bl, eqW_str, newL_f, newL_t, List.length_nil, List.length_cons, truW, bindT, bindTs, Lit.d, Z.keyOf, isAbs, Z.part, seqOf, lstT, lstOf, List.getElem?_cons_zero, List.getElem?_cons_succ, List.set_cons_zero, List.set_cons_succ, Bool.false_xor, Bool.true_xor, lenW_lst, lenW_tup, idx_fst, idx_snd, put_same, put_put, sz0, sz1, sz2, sz3, sz4, sz5, sz6, sz7, sz8, true_and, and_true, implies_true, beq_true, beq_false, Bool.not_false, Bool.not_true]
        refine ⟨ty ht _, app (t := ((0 : Int), n - 1)) ht (by omega) ⟨by omega, by omega, by omega, by omega, by show (0 : Int) ≠ n - 1; omega⟩ fun m' ht => hK4 _ _ (seq_nil (c1 _ ht))⟩
      · exact seq_nil (c1 _ (ht.le (by omega)))
    · rename_i hh
      simp only [hh]
      exact seq_nil (c1 _ (ht.le (by omega)))
  clear hK
  refine for_rule (callN_mono _) ?_
  simp only [wS.eq_1, wS.eq_2, wS.eq_3, wS.eq_4, wS.eq_5, wS.eq_6, wS.eq_7, wS.eq_8, wS.eq_11, wE.eq_1, wE.eq_2, wE.eq_3, wE.eq_4, wE.eq_5, wE.eq_6, wE.eq_7, wE.eq_8, wE.eq_9, wE.eq_10, wE.eq_11, wE.eq_12, wE.eq_14, wEs, wDi, wBo, wT, wBt, wIfs, wI, itOf, Z.guard, opW, i2, addW, mulW, eqW_int, eqW_bl, eqW_str, newL_f, newL_t, List.length_nil, List.length_cons, truW, bindT, bindTs, Lit.d, Z.keyOf, isAbs, Z.part, seqOf, lstT, lstOf, List.getElem?_cons_zero, List.getElem?_cons_succ, List.set_cons_zero, List.set_cons_succ, Bool.false_xor, Bool.true_xor, lenW_lst, lenW_tup, idx_fst, idx_snd, put_same, put_put, sz0, sz1, sz2, sz3, sz4, sz5, sz6, sz7, sz8, true_and, and_true, implies_true, beq_true, beq_false, Bool.not_false, Bool.not_true]
  refine ⟨by omega, fun i e m => i ≤ 63 ∧ ∃ x, e = [some (.cell p), some (.int n), some (.int sh), some (.cell q), x, none, none, none] ∧ TS M p cells n (i * 66) q m, ⟨by omega, none, rfl, by simpa using t0⟩, ?_, ?_⟩
  · rintro i x e m hx ⟨hi', y, rfl, ht⟩
    obtain ⟨hi, rfl⟩ := rangeL_get hx
    clear hx
    refine seq_abs fun K1 hK1 => ?_
    have c1 : ∀ m', TS M p cells n (i * 66 + 1) q m' → K1 [some (.cell p), some (.int n), some (.int sh), some (.cell q), some (.int (1 + (i : Int))), none, none, none] m' := by
      intro m ht
      refine hK1 _ _ ?_
      clear hK1
      refine seq_abs fun K2 hK2 => ?_
      have c2 : ∀ m', TS M p cells n (i * 66 + 2) q m' → K2 [some (.cell p), some (.int n), some (.int sh), some (.cell q), some (.int (1 + (i : Int))), none, none, none] m' := by
        intro m ht
        refine hK2 _ _ ?_
        clear hK2
        refine seq_abs fun K3 hK3 => ?_
        have c3 : ∀ m', TS M p cells n ((i + 1) * 66) q m' → K3 [some (.cell p), some (.int n), some (.int sh), some (.cell q), some (.int (1 + (i : Int))), none, none, none] m' := by
          intro m ht
          exact hK3 _ _ (seq_nil ⟨by omega, _, rfl, ht⟩)
        simp only [wS.eq_1, wS.eq_2, wS.eq_3, wS.eq_4, wS.eq_5, wS.eq_6, wS.eq_7, wS.eq_8, wS.eq_11, wE.eq_1, wE.eq_2, wE.eq_3, wE.eq_4, wE.eq_5, wE.eq_6, wE.eq_7, wE.eq_8, wE.eq_9, wE.eq_10, wE.eq_11, wE.eq_12, wE.eq_14, wEs, wDi, wBo, wT, wBt, wIfs, wI, itOf, Z.guard, opW, i2, addW, mulW, eqW_int, eqW_bl, eqW_str, newL_f, newL_t, List.length_nil, List.length_cons, truW, bindT, bindTs, Lit.d, Z.keyOf, isAbs, Z.part, seqOf, lstT, lstOf, List.getElem?_cons_zero, List.getElem?_cons_succ, List.set_cons_zero, List.set_cons_succ, Bool.false_xor, Bool.true_xor, lenW_lst, lenW_tup, idx_fst, idx_snd, put_same, put_put, sz0, sz1, sz2, sz3, sz4, sz5, sz6, sz7, sz8, true_and, and_true, implies_true, beq_true, beq_false, Bool.not_false, Bool.not_true]
        split
        · refine seq_abs fun K4 hK4 => ?_
          simp only [wS.eq_1, wS.eq_2, wS.eq_3, wS.eq_4, wS.eq_5, wS.eq_6, wS.eq_7, wS.eq_8, wS.eq_11, wE.eq_1, wE.eq_2, wE.eq_3, wE.eq_4, wE.eq_5, wE.eq_6, wE.eq_7, wE.eq_8, wE.eq_9, wE.eq_10, wE.eq_11, wE.eq_12, wE.eq_14, wEs, wDi, wBo, wT, wBt, wIfs, wI, itOf, Z.guard, opW, i2, addW, mulW, eqW_int, eqW_bl, eqW_str, newL_f, newL_t, List.length_nil, List.length_cons, truW, bindT, bindTs, Lit.d, Z.keyOf, isAbs, Z.part, seqOf, lstT, lstOf, List.getElem?_cons_zero, List.getElem?_cons_succ, List.set_cons_zero, List.set_cons_succ, Bool.false_xor, Bool.true_xor, lenW_lst, lenW_tup, idx_fst, idx_snd, put_same, put_put, sz0, sz1, sz2, sz3, sz4, sz5, sz6, sz7, sz8, true_and, and_true, implies_true, beq_true, beq_false, Bool.not_false, Bool.not_true]
          refine ⟨ty ht _, comp_tree (callN_mono _) ?_⟩
          simp only [wS.eq_1, wS.eq_2, wS.eq_3, wS.eq_4, wS.eq_5, wS.eq_6, wS.eq_7, wS.eq_8, wS.eq_11, wE.eq_1, wE.eq_2, wE.eq_3, wE.eq_4, wE.eq_5, wE.eq_6, wE.eq_7, wE.eq_8, wE.eq_9, wE.eq_10, wE.eq_11, wE.eq_12, wE.eq_14, wEs, wDi, wBo, wT, wBt, wIfs, wI, itOf, Z.guard, opW, i2, addW, mulW, eqW_int, eqW_bl, eqW_str, newL_f, newL_t, List.length_nil, List.length_cons, truW, bindT, bindTs, Lit.d, Z.keyOf, isAbs, Z.part, seqOf, lstT, lstOf, List.getElem?_cons_zero, List.getElem?_cons_succ, List.set_cons_zero, List.set_cons_succ, Bool.false_xor, Bool.true_xor, lenW_lst, lenW_tup, idx_fst, idx_snd, put_same, put_put, sz0, sz1, sz2, sz3, sz4, sz5, sz6, sz7, sz8, true_and, and_true, implies_true, beq_true, beq_false, Bool.not_false, Bool.not_true]
          refine ⟨by omega, by omega, fun _ => true, fun x => .tup [x, .int (1 + (i : Int))], ?_, ?_, ?_⟩
          · rw [rangeL_len]; omega
          · intro x hx M2 _
            simp only [tgSlots, wipeD, wS.eq_1, wS.eq_2, wS.eq_3, wS.eq_4, wS.eq_5, wS.eq_6, wS.eq_7, wS.eq_8, wS.eq_11, wE.eq_1, wE.eq_2, wE.eq_3, wE.eq_4, wE.eq_5, wE.eq_6, wE.eq_7, wE.eq_8, wE.eq_9, wE.eq_10, wE.eq_11, wE.eq_12, wE.eq_14, wEs, wDi, wBo, wT, wBt, wIfs, wI, itOf, Z.guard, opW, i2, addW, mulW, eqW_int, eqW_bl, eqW_str, newL_f, newL_t, List.length_nil, List.length_cons, truW, bindT, bindTs, Lit.d, Z.keyOf, isAbs, Z.part, seqOf, lstT, lstOf, List.getElem?_cons_zero, List.getElem?_cons_succ, List.set_cons_zero, List.set_cons_succ, Bool.false_xor, Bool.true_xor, lenW_lst, lenW_tup, idx_fst, idx_snd, put_same, put_put, sz0, sz1, sz2, sz3, sz4, sz5, sz6, sz7, sz8, true_and, and_true, implies_true, beq_true, beq_false, Bool.not_false, Bool.not_true]
          · have e : ((rangeL 0 (1 + (i : Int)).toNat).filter fun _ => true).map (fun x => D.tup [x, .int (1 + (i : Int))]) = (((List.range (1 + (i : Int)).toNat).map fun (j : Nat) => ((j : Int), 1 + (i : Int))).map pr) := by
              rw [List.filter_eq_self.mpr fun _ _ => rfl]
              simp [rangeL, pr]
            rw [e]
            refine ext (C := 64) ht (by omega) (by simp; omega) ?_ fun m' ht => hK4 _ _ (seq_nil (c3 _ (ht.le (by omega))))
            intro t ht
            simp only [List.mem_map, List.mem_range] at ht
            obtain ⟨j, hj, rfl⟩ := ht
            exact ⟨by show (0 : Int) ≤ (j : Int); omega, by show (j : Int) < n; omega, by show 0 ≤ 1 + (i : Int); omega, by show 1 + (i : Int) < n; omega, by show (j : Int) ≠ 1 + (i : Int); omega⟩
        · exact seq_nil (c3 _ (ht.le (by omega)))
      simp only [wS.eq_1, wS.eq_2, wS.eq_3, wS.eq_4, wS.eq_5, wS.eq_6, wS.eq_7, wS.eq_8, wS.eq_11, wE.eq_1, wE.eq_2, wE.eq_3, wE.eq_4, wE.eq_5, wE.eq_6, wE.eq_7, wE.eq_8, wE.eq_9, wE.eq_10, wE.eq_11, wE.eq_12, wE.eq_14, wEs, wDi, wBo, wT, wBt, wIfs, wI, itOf, Z.guard, opW, i2, addW, mulW, eqW_int, eqW_bl, eqW_str, newL_f, newL_t, List.length_nil, List.length_cons, truW, bindT, bindTs, Lit.d, Z.keyOf, isAbs, Z.part, seqOf, lstT, lstOf, List.getElem?_cons_zero, List.getElem?_cons_succ, List.set_cons_zero, List.set_cons_succ, Bool.false_xor, Bool.true_xor, lenW_lst, lenW_tup, idx_fst, idx_snd, put_same, put_put, sz0, sz1, sz2, sz3, sz4, sz5, sz6, sz7, sz8, true_and, and_true, implies_true, beq_true, beq_false, Bool.not_false, Bool.not_true]
      refine in_ints (ns := [2, 6, 7]) (by rfl) ?_
      simp only [Bool.false_xor]
      split
      · refine seq_abs fun K4 hK4 => ?_
        simp only [wS.eq_1, wS.eq_2, wS.eq_3, wS.eq_4, wS.eq_5, wS.eq_6, wS.eq_7, wS.eq_8, wS.eq_11, wE.eq_1, wE.eq_2, wE.eq_3, wE.eq_4, wE.eq_5, wE.eq_6, wE.eq_7, wE.eq_8, wE.eq_9, wE.eq_10, wE.eq_11, wE.eq_12, wE.eq_14, wEs, wDi, wBo, wT, wBt, wIfs, wI, itOf, Z.guard, opW, i2, addW, mulW, eqW_int, eqW_bl, eqW_str, newL_f, newL_t, List.length_nil, List.length_cons, truW, bindT, bindTs, Lit.d, Z.keyOf, isAbs, Z.part, seqOf, lstT, lstOf, List.getElem?_cons_zero, List.getElem?_cons_succ, List.set_cons_zero, List.set_cons_succ, Bool.false_xor, Bool.true_xor, lenW_lst, lenW_tup, idx_fst, idx_snd, put_same, put_put, sz0, sz1, sz2, sz3, sz4, sz5, sz6, sz7, sz8, true_and, and_true, implies_true, beq_true, beq_false, Bool.not_false, Bool.not_true]
        refine ⟨ty ht _, drw ht (by omega) (by omega) (by omega) fun x m' e1 e2 ht' _ => ?_⟩
        exact app (t := (x, 1 + (i : Int))) ht' (by omega) ⟨by omega, by omega, by omega, by omega, by show x ≠ 1 + (i : Int); omega⟩ fun m' ht => hK4 _ _ (seq_nil (c2 _ ht))
      · exact seq_nil (c2 _ (ht.le (by omega)))
    simp only [wS.eq_1, wS.eq_2, wS.eq_3, wS.eq_4, wS.eq_5, wS.eq_6, wS.eq_7, wS.eq_8, wS.eq_11, wE.eq_1, wE.eq_2, wE.eq_3, wE.eq_4, wE.eq_5, wE.eq_6, wE.eq_7, wE.eq_8, wE.eq_9, wE.eq_10, wE.eq_11, wE.eq_12, wE.eq_14, wEs, wDi, wBo, wT, wBt, wIfs, wI, itOf, Z.guard, opW, i2, addW, mulW, eqW_int, eqW_bl, eqW_str, newL_f, newL_t, List.length_nil, List.length_cons, truW, bindT, bindTs, Lit.d, Z.keyOf, isAbs, Z.part, seqOf, lstT, lstOf, List.getElem?_cons_zero, List.getElem?_cons_succ, List.set_cons_zero, List.set_cons_succ, Bool.false_xor, Bool.true_xor, lenW_lst, lenW_tup, idx_fst, idx_snd, put_same, put_put, sz0, sz1, sz2, sz3, sz4, sz5, sz6, sz7, sz8, true_and, and_true, implies_true, beq_true, beq_false, Bool.not_false, Bool.not_true]
    refine in_ints (ns := [1, 3]) (by rfl) ?_
    simp only [Bool.false_xor]
    split
    · refine seq_abs fun K4 hK4 => ?_
      simp only [wS.eq_1, wS.eq_2, wS.eq_3, wS.eq_4, wS.eq_5, wS.eq_6, wS.eq_7, wS.eq_8, wS.eq_11, wE.eq_1, wE.eq_2, wE.eq_3, wE.eq_4, wE.eq_5, wE.eq_6, wE.eq_7, wE.eq_8, wE.eq_9, wE.eq_10, wE.eq_11, wE.eq_12, wE.eq_14, wEs, wDi, wBo, wT, wBt, wIfs, wI, itOf, Z.guard, opW, i2, addW, mulW, eqW_int, eqW_bl, eqW_str, newL_f, newL_t, List.length_nil, List.length_cons, truW, bindT, bindTs, Lit.d, Z.keyOf, isAbs, Z.part, seqOf, lstT, lstOf, List.getElem?_cons_zero, List.getElem?_cons_succ, List.set_cons_zero, List.set_cons_succ, Bool.false_xor, Bool.true_xor, lenW_lst, lenW_tup, idx_fst, idx_snd, put_same, put_put, sz0, sz1, sz2, sz3, sz4, sz5, sz6, sz7, sz8, true_and, and_true, implies_true, beq_true, beq_false, Bool.not_false, Bool.not_true]
      refine ⟨ty ht _, app (t := (1 + (i : Int) - 1, 1 + (i : Int))) ht (by omega) ⟨by omega, by omega, by omega, by omega, by show 1 + (i : Int) - 1 ≠ 1 + (i : Int); omega⟩ fun m' ht => hK4 _ _ (seq_nil (c1 _ ht))⟩
    · exact seq_nil (c1 _ (ht.le (by omega)))
  · rintro e m ⟨hi, y, rfl, ht⟩
    exact hk _ _ (ht.le (by omega))
end KL

set_option linter.all false
/-! cuts and falls -/
namespace KM
abbrev Tie := Int × Int
def cr (S : Int → Bool) (t : Tie) : Bool := S t.1 != S t.2
def cross (S : Int → Bool) (ts : List Tie) : Nat := ts.countP (cr S)
def Proper (n : Int) (S : Int → Bool) : Prop := (∃ v, 0 ≤ v ∧ v < n ∧ S v = true) ∧ ∃ v, 0 ≤ v ∧ v < n ∧ S v = false
def Conn (n : Int) (ts : List Tie) : Prop := ∀ S, Proper n S → 1 ≤ cross S ts
theorem cross_erase (S : Int → Bool) : ∀ (ts : List Tie) (k : Nat) (t : Tie), ts[k]? = some t → cross S (ts.eraseIdx k) + (if cr S t = true then 1 else 0) = cross S ts
  | [], k, t, h => by simp at h
  | u :: ts, 0, t, h => by
    simp at h
    subst h
    unfold cross
    rw [List.eraseIdx_cons_zero, List.countP_cons]
  | u :: ts, k + 1, t, h => by
    have ih := cross_erase S ts k t (by simpa using h)
    unfold cross at ih ⊢
    rw [List.eraseIdx_cons_succ, List.countP_cons, List.countP_cons]
    omega
theorem first_cross (S : Int → Bool) : ∀ (ts : List Tie), 1 ≤ cross S ts → ∃ (k : Nat) (t : Tie), ts[k]? = some t ∧ cr S t = true ∧ ∀ j u, j < k → ts[j]? = some u → cr S u = false
  | [], h => by simp [cross] at h
  | u :: ts, h => by
    by_cases hu : cr S u = true
    · exact ⟨0, u, rfl, hu, fun j _ hj => by omega⟩
    · have h' : 1 ≤ cross S ts := by
        unfold cross at h ⊢
        rw [List.countP_cons, if_neg hu] at h
        omega
      obtain ⟨k, t, h1, h2, h3⟩ := first_cross S ts h'
      refine ⟨k + 1, t, by simpa using h1, h2, fun j w hj hw => ?_⟩
      cases j with
      | zero =>
        simp at hw
        subst hw
        simpa using hu
      | succ j => exact h3 j w (by omega) (by simpa using hw)
def Unhurt (n : Int) (ts : List Tie) (falls : Nat) : Prop := Conn n ts ∧ ∀ k, k < ts.length → Conn n (ts.eraseIdx k) ∧ (falls = 2 → ∀ j, k ≤ j → j < (ts.eraseIdx k).length → Conn n ((ts.eraseIdx k).eraseIdx j))
theorem unhurt_iff (n : Int) (ts : List Tie) (falls : Nat) (hf : falls = 1 ∨ falls = 2) : Unhurt n ts falls ↔ ∀ S, Proper n S → falls + 1 ≤ cross S ts := by
  constructor
  · rintro ⟨h0, h1⟩ S hS
    have g0 := h0 S hS
    obtain ⟨k, t, e1, e2, e3⟩ := first_cross S ts g0
    have hk : k < ts.length := (List.getElem?_eq_some_iff.mp e1).1
    obtain ⟨h2, h3⟩ := h1 k hk
    have g1 := h2 S hS
    have q1 := cross_erase S ts k t e1
    rw [if_pos e2] at q1
    rcases hf with rfl | rfl
    · omega
    · obtain ⟨j, u, d1, d2, d3⟩ := first_cross S (ts.eraseIdx k) g1
      have hj : j < (ts.eraseIdx k).length := (List.getElem?_eq_some_iff.mp d1).1
      have hkj : k ≤ j := by
        rcases Nat.lt_or_ge j k with h | h
        · rw [List.getElem?_eraseIdx_of_lt h] at d1
          have := e3 j u h d1
          rw [this] at d2; cases d2
        · exact h
      have g2 := h3 rfl j hkj hj S hS
      have q2 := cross_erase S (ts.eraseIdx k) j u d1
      rw [if_pos d2] at q2
      omega
  · intro h
    have key : ∀ (us : List Tie) (k : Nat) S, cross S us ≤ cross S (us.eraseIdx k) + 1 := fun us k S => by
      cases e : us[k]? with
      | none =>
        have : us.length ≤ k := by simpa using e
        rw [List.eraseIdx_of_length_le this]; omega
      | some t =>
        have := cross_erase S us k t e
        split at this <;> omega
    refine ⟨fun S hS => ?_, fun k hk => ⟨fun S hS => ?_, fun h2 j hj hj2 S hS => ?_⟩⟩
    · have := h S hS; omega
    · have := h S hS
      have := key ts k S
      omega
    · have := h S hS
      have := key ts k S
      have := key (ts.eraseIdx k) j S
      omega
/-! ### bits -/
def enc (s : Nat → Bool) : Nat → Nat
  | 0 => 0
  | n + 1 => (if s n = true then 2 ^ n else 0) + enc s n
theorem enc_lt (s : Nat → Bool) : ∀ n, enc s n < 2 ^ n
  | 0 => by simp [enc]
  | n + 1 => by
    have := enc_lt s n
    rw [enc, Nat.pow_succ]
    split <;> omega
theorem enc_bit (s : Nat → Bool) : ∀ n i, i < n → (enc s n).testBit i = s i
  | 0, i, h => by omega
  | n + 1, i, h => by
    rw [enc]
    by_cases hs : s n = true
    · rw [if_pos hs]
      by_cases e : i = n
      · subst e
        rw [Nat.testBit_two_pow_add_eq, Nat.testBit_lt_two_pow (enc_lt s i), hs]; rfl
      · rw [Nat.testBit_two_pow_add_gt (by omega), enc_bit s n i (by omega)]
    · rw [if_neg hs, Nat.zero_add]
      by_cases e : i = n
      · subst e
        rw [Nat.testBit_lt_two_pow (enc_lt s i)]
        simpa using hs
      · exact enc_bit s n i (by omega)
def bitS (b : Nat) (v : Int) : Bool := b.testBit v.toNat
def Web (n : Int) (ts : List Tie) : Prop := ∀ t ∈ ts, 0 ≤ t.1 ∧ t.1 < t.2 ∧ t.2 < n
theorem cross_congr {n : Int} {ts : List Tie} (hw : Web n ts) {S S' : Int → Bool} (h : ∀ v, 0 ≤ v → v < n → S v = S' v) : cross S ts = cross S' ts := by
  unfold cross
  refine List.countP_congr fun t ht => ?_
  obtain ⟨h1, h2, h3⟩ := hw t ht
  unfold cr
  rw [h t.1 h1 (by omega), h t.2 (by omega) h3]
theorem stands_iff (n : Nat) (ts : List Tie) (hw : Web n ts) (f : Nat) : (∀ b : Nat, 1 ≤ b → b < 2 ^ n - 1 → f ≤ cross (bitS b) ts) ↔ ∀ S, Proper n S → f ≤ cross S ts := by
  constructor
  · rintro h S ⟨⟨v, v0, v1, hv⟩, ⟨w, w0, w1, hw'⟩⟩
    have hb := enc_bit (fun k => S (k : Int)) n
    have e : cross (bitS (enc (fun k => S (k : Int)) n)) ts = cross S ts := cross_congr hw fun x x0 x1 => by
      unfold bitS
      rw [hb x.toNat (by omega)]
      show S (x.toNat : Int) = S x
      rw [Int.toNat_of_nonneg x0]
    rw [← e]
    have hv' := hb v.toNat (by omega)
    have hw2 := hb w.toNat (by omega)
    rw [Int.toNat_of_nonneg v0, hv] at hv'
    rw [Int.toNat_of_nonneg w0, hw'] at hw2
    refine h _ ?_ ?_
    · rcases Nat.eq_zero_or_pos (enc (fun k => S (k : Int)) n) with e0 | e0
      · rw [e0] at hv'; simp at hv'
      · exact e0
    · have hl := enc_lt (fun k => S (k : Int)) n
      rcases Nat.lt_or_ge (enc (fun k => S (k : Int)) n) (2 ^ n - 1) with h | h
      · exact h
      · have e0 : enc (fun k => S (k : Int)) n = 2 ^ n - 1 := by omega
        rw [e0, Nat.testBit_two_pow_sub_one] at hw2
        simp at hw2
        omega
  · intro h b b0 b1
    refine h _ ⟨?_, ?_⟩
    · apply Classical.byContradiction
      intro hn
      have : b = 0 := by
        apply Nat.eq_of_testBit_eq
        intro i
        rw [Nat.zero_testBit]
        by_cases hi : i < n
        · cases e : b.testBit i with
          | false => rfl
          | true => exact absurd ⟨(i : Int), by omega, by omega, by unfold bitS; simpa using e⟩ hn
        · exact Nat.testBit_lt_two_pow (Nat.lt_of_lt_of_le (by omega : b < 2 ^ n) (Nat.pow_le_pow_right (by omega) (by omega)))
      omega
    · apply Classical.byContradiction
      intro hn
      have : b = 2 ^ n - 1 := by
        apply Nat.eq_of_testBit_eq
        intro i
        rw [Nat.testBit_two_pow_sub_one]
        by_cases hi : i < n
        · rw [decide_eq_true hi]
          cases e : b.testBit i with
          | true => rfl
          | false => exact absurd ⟨(i : Int), by omega, by omega, by unfold bitS; simpa using e⟩ hn
        · rw [decide_eq_false hi]
          exact Nat.testBit_lt_two_pow (Nat.lt_of_lt_of_le (by omega : b < 2 ^ n) (Nat.pow_le_pow_right (by omega) (by omega)))
      omega
theorem nodup_le : ∀ (n : Nat) (l : List Int), l.Nodup → (∀ v ∈ l, 0 ≤ v ∧ v < n) → l.length ≤ n
  | 0, l, _, h => by
    cases l with
    | nil => simp
    | cons a l => have := h a (by simp); omega
  | n + 1, l, nd, h => by
    have ih := nodup_le n (l.erase (n : Int)) (nd.erase _) fun v hv => by
      obtain ⟨h1, h2⟩ := (List.Nodup.mem_erase_iff nd).mp hv
      have := h v h2
      omega
    have : l.length ≤ (l.erase (n : Int)).length + 1 := by
      rw [List.length_erase]
      split <;> omega
    omega
/-- a list of places that is closed under the ties and reached from 0 tells whether all hangs together -/
theorem conn_of {n : Int} {ts : List Tie} (known : List Int) (h0 : (0 : Int) ∈ known) (hnd : known.Nodup) (hr : ∀ v ∈ known, 0 ≤ v ∧ v < n)
    (hcl : ∀ t ∈ ts, (t.1 ∈ known ↔ t.2 ∈ known)) (hre : ∀ S : Int → Bool, S 0 = true → (∀ t ∈ ts, S t.1 = S t.2) → ∀ v ∈ known, S v = true) : (known.length : Int) = n ↔ Conn n ts := by
  have no : ∀ (S : Int → Bool) (t : Tie), cr S t = false → S t.1 = S t.2 := fun S t h => by
    unfold cr at h
    simpa using h
  constructor
  · intro hl
    have all : ∀ v, 0 ≤ v → v < n → v ∈ known := by
      intro v v0 v1
      apply Classical.byContradiction
      intro hv
      have := nodup_le n.toNat (v :: known) (List.nodup_cons.mpr ⟨hv, hnd⟩) fun x hx => by
        rcases List.mem_cons.mp hx with e | e
        · subst e; omega
        · have := hr x e; omega
      simp at this
      omega
    rintro S ⟨⟨v, v0, v1, hv⟩, ⟨w, w0, w1, hw⟩⟩
    apply Classical.byContradiction
    intro hc
    have hz : cross S ts = 0 := by omega
    unfold cross at hz
    rw [List.countP_eq_zero] at hz
    have heq : ∀ t ∈ ts, S t.1 = S t.2 := fun t ht => no S t (by simpa using hz t ht)
    cases e : S 0 with
    | true =>
      have := hre S e heq w (all w w0 w1)
      rw [hw] at this; cases this
    | false =>
      have := hre (fun x => !S x) (by simp [e]) (fun t ht => by simp [heq t ht]) v (all v v0 v1)
      simp [hv] at this
  · intro hc
    have hle := nodup_le n.toNat known hnd fun v hv => by have := hr v hv; omega
    have h0' := hr 0 h0
    apply Classical.byContradiction
    intro hne
    have hex : ∃ v, 0 ≤ v ∧ v < n ∧ v ∉ known := by
      apply Classical.byContradiction
      intro hno
      have hall : ∀ v, 0 ≤ v → v < n → v ∈ known := fun v v0 v1 => by
        apply Classical.byContradiction
        intro h
        exact hno ⟨v, v0, v1, h⟩
      have key : ∀ (m : Nat) (l : List Int), (∀ v : Int, 0 ≤ v → v < m → v ∈ l) → m ≤ l.length := by
        intro m
        induction m with
        | zero => intro l _; omega
        | succ m ih =>
          intro l hl
          have hm := hl m (by omega) (by omega)
          have := ih (l.erase (m : Int)) fun v v0 v1 => (List.mem_erase_of_ne (by omega)).mpr (hl v v0 (by omega))
          rw [List.length_erase_of_mem hm] at this
          have := List.length_pos_of_mem hm
          omega
      have := key n.toNat known fun v v0 v1 => hall v v0 (by omega)
      omega
    obtain ⟨v, v0, v1, hv⟩ := hex
    have := hc (fun x => decide (x ∈ known)) ⟨⟨0, by omega, by omega, by simpa using h0⟩, ⟨v, v0, v1, by simpa using hv⟩⟩
    have hz : cross (fun x => decide (x ∈ known)) ts = 0 := by
      unfold cross
      rw [List.countP_eq_zero]
      intro t ht
      unfold cr
      have := hcl t ht
      by_cases e : t.1 ∈ known
      · simp [e, this.mp e]
      · have e2 : t.2 ∉ known := fun h => e (this.mpr h)
        simp [e, e2]
    omega
end KM

set_option Elab.async false
set_option linter.all false
set_option maxRecDepth 100000
set_option maxHeartbeats 0
namespace KL
open PySem PySem.Spec PyProof.Rows L2 Z
theorem perm_mem {o : List Int} {n : Int} (h : o.Perm ((List.range n.toNat).map fun (k : Nat) => (k : Int))) {x : Int} (hx : x ∈ o) : 0 ≤ x ∧ x < n := by
  have := h.mem_iff.mp hx
  simp only [List.mem_map, List.mem_range] at this
  obtain ⟨k, hk, rfl⟩ := this
  omega
theorem perm_len {o : List Int} {n : Int} (h : o.Perm ((List.range n.toNat).map fun (k : Nat) => (k : Int))) : o.length = n.toNat := by simpa using h.length_eq
theorem perm_nd {o : List Int} {n : Int} (h : o.Perm ((List.range n.toNat).map fun (k : Nat) => (k : Int))) : o.Nodup := by
  refine h.nodup_iff.mpr ?_
  exact List.pairwise_map.mpr (List.Pairwise.imp (fun h e => h (Int.ofNat_inj.mp e)) List.nodup_range)
/-- what a web is -/
abbrev Web := KM.Web
theorem web_spec {M : MM} {p : Addr} {cells : List Int} {a r most : Int} (hp : M p = some (penO cells a r)) (hc : cells.length ≤ 63) (h0 : 0 < most) (h1 : most ≤ 64) :
    callN T GG 3 "_law_web" [.cell p, .int most] M (fun d M' => ∃ (n : Int) (ts : List (Int × Int)), d = .tup [.int n, .tup (ts.map pr)] ∧ 1 ≤ n ∧ n ≤ most ∧ Web n ts ∧ ts.length ≤ 10000 ∧ PenR M p cells M') nX := by
  have hS : sizeLine = 2 ^ 24 := rfl
  refine call_def lk__law_web ⟨rfl, ?_⟩
  simp only [d__law_web, startD, List.map_cons, List.map_nil, List.length_cons, List.length_nil, Nat.zero_add, Nat.reduceAdd, Nat.reduceSub, Nat.sub_self, List.replicate_succ, List.replicate_zero, List.cons_append, List.nil_append, List.append_nil]
  refine seq_abs fun K hK => ?_
  simp only [wS.eq_1, wS.eq_2, wS.eq_3, wS.eq_4, wS.eq_5, wS.eq_6, wS.eq_7, wS.eq_8, wS.eq_11, wE.eq_1, wE.eq_2, wE.eq_3, wE.eq_4, wE.eq_5, wE.eq_6, wE.eq_7, wE.eq_8, wE.eq_9, wE.eq_10, wE.eq_11, wE.eq_12, wE.eq_14, wEs, wDi, wBo, wT, wBt, wIfs, wI, itOf, Z.guard, opW, i2, addW, mulW, eqW_int, eqW_bl, eqW_str, newL_f, newL_t, List.length_nil, List.length_cons, truW, bindT, bindTs, Lit.d, Z.keyOf, isAbs, Z.part, seqOf, lstT, lstOf, List.getElem?_cons_zero, List.getElem?_cons_succ, List.set_cons_zero, List.set_cons_succ, Bool.false_xor, Bool.true_xor, lenW_lst, lenW_tup, idx_fst, idx_snd, put_same, put_put, sz0, sz1, sz2, sz3, sz4, sz5, sz6, sz7, sz8, true_and, and_true, implies_true, beq_true, beq_false, Bool.not_false, Bool.not_true]
  refine call_use (draw_spec hp hc (by omega) (by omega)) (by omega) ?_
  rintro _ _ ⟨v, a1, r1, rfl, v0, v1, rfl⟩
  refine hK _ _ ?_
  clear hK K
  refine seq_abs fun K hK => ?_
  simp only [wS.eq_1, wS.eq_2, wS.eq_3, wS.eq_4, wS.eq_5, wS.eq_6, wS.eq_7, wS.eq_8, wS.eq_11, wE.eq_1, wE.eq_2, wE.eq_3, wE.eq_4, wE.eq_5, wE.eq_6, wE.eq_7, wE.eq_8, wE.eq_9, wE.eq_10, wE.eq_11, wE.eq_12, wE.eq_14, wEs, wDi, wBo, wT, wBt, wIfs, wI, itOf, Z.guard, opW, i2, addW, mulW, eqW_int, eqW_bl, eqW_str, newL_f, newL_t, List.length_nil, List.length_cons, truW, bindT, bindTs, Lit.d, Z.keyOf, isAbs, Z.part, seqOf, lstT, lstOf, List.getElem?_cons_zero, List.getElem?_cons_succ, List.set_cons_zero, List.set_cons_succ, Bool.false_xor, Bool.true_xor, lenW_lst, lenW_tup, idx_fst, idx_snd, put_same, put_put, sz0, sz1, sz2, sz3, sz4, sz5, sz6, sz7, sz8, true_and, and_true, implies_true, beq_true, beq_false, Bool.not_false, Bool.not_true]
  refine call_use (order_spec put_same hc (by omega) (by omega)) (by omega) ?_
  rintro _ _ ⟨o, rfl, ho, a2, r2, rfl⟩
  rw [put_put]
  refine hK _ _ ?_
  clear hK K
  have hol := perm_len ho
  have hnd := perm_nd ho
  refine seq_abs fun K hK => ?_
  simp only [wS.eq_1, wS.eq_2, wS.eq_3, wS.eq_4, wS.eq_5, wS.eq_6, wS.eq_7, wS.eq_8, wS.eq_11, wE.eq_1, wE.eq_2, wE.eq_3, wE.eq_4, wE.eq_5, wE.eq_6, wE.eq_7, wE.eq_8, wE.eq_9, wE.eq_10, wE.eq_11, wE.eq_12, wE.eq_14, wEs, wDi, wBo, wT, wBt, wIfs, wI, itOf, Z.guard, opW, i2, addW, mulW, eqW_int, eqW_bl, eqW_str, newL_f, newL_t, List.length_nil, List.length_cons, truW, bindT, bindTs, Lit.d, Z.keyOf, isAbs, Z.part, seqOf, lstT, lstOf, List.getElem?_cons_zero, List.getElem?_cons_succ, List.set_cons_zero, List.set_cons_succ, Bool.false_xor, Bool.true_xor, lenW_lst, lenW_tup, idx_fst, idx_snd, put_same, put_put, sz0, sz1, sz2, sz3, sz4, sz5, sz6, sz7, sz8, true_and, and_true, implies_true, beq_true, beq_false, Bool.not_false, Bool.not_true]
  refine comp_map pr (callN_mono _) ?_
  simp only [wS.eq_1, wS.eq_2, wS.eq_3, wS.eq_4, wS.eq_5, wS.eq_6, wS.eq_7, wS.eq_8, wS.eq_11, wE.eq_1, wE.eq_2, wE.eq_3, wE.eq_4, wE.eq_5, wE.eq_6, wE.eq_7, wE.eq_8, wE.eq_9, wE.eq_10, wE.eq_11, wE.eq_12, wE.eq_14, wEs, wDi, wBo, wT, wBt, wIfs, wI, itOf, Z.guard, opW, i2, addW, mulW, eqW_int, eqW_bl, eqW_str, newL_f, newL_t, List.length_nil, List.length_cons, truW, bindT, bindTs, Lit.d, Z.keyOf, isAbs, Z.part, seqOf, lstT, lstOf, List.getElem?_cons_zero, List.getElem?_cons_succ, List.set_cons_zero, List.set_cons_succ, Bool.false_xor, Bool.true_xor, lenW_lst, lenW_tup, idx_fst, idx_snd, put_same, put_put, sz0, sz1, sz2, sz3, sz4, sz5, sz6, sz7, sz8, true_and, and_true, implies_true, beq_true, beq_false, Bool.not_false, Bool.not_true]
  refine call_use (ties_spec put_same hc (by omega) (by omega)) (by omega) ?_
  rintro _ _ ⟨ts, rfl, hts, htl, a3, r3, rfl⟩
  simp only [put_put, wS.eq_1, wS.eq_2, wS.eq_3, wS.eq_4, wS.eq_5, wS.eq_6, wS.eq_7, wS.eq_8, wS.eq_11, wE.eq_1, wE.eq_2, wE.eq_3, wE.eq_4, wE.eq_5, wE.eq_6, wE.eq_7, wE.eq_8, wE.eq_9, wE.eq_10, wE.eq_11, wE.eq_12, wE.eq_14, wEs, wDi, wBo, wT, wBt, wIfs, wI, itOf, Z.guard, opW, i2, addW, mulW, eqW_int, eqW_bl, eqW_str, newL_f, newL_t, List.length_nil, List.length_cons, truW, bindT, bindTs, Lit.d, Z.keyOf, isAbs, Z.part, seqOf, lstT, lstOf, List.getElem?_cons_zero, List.getElem?_cons_succ, List.set_cons_zero, List.set_cons_succ, Bool.false_xor, Bool.true_xor, lenW_lst, lenW_tup, idx_fst, idx_snd, put_same, put_put, sz0, sz1, sz2, sz3, sz4, sz5, sz6, sz7, sz8, true_and, and_true, implies_true, beq_true, beq_false, Bool.not_false, Bool.not_true]
  refine ⟨ts, fun _ => true, fun t => pr (o.getD t.1.toNat 0, o.getD t.2.toNat 0), rfl, by omega, ?_, ?_⟩
  · intro t ht M2 _
    obtain ⟨z1, z2, z3, z4, z5⟩ := hts t ht
    simp only [tgSlots, tgsSlots, List.append_nil, List.nil_append, List.cons_append, wipeD, pr, idxW_lst, wS.eq_1, wS.eq_2, wS.eq_3, wS.eq_4, wS.eq_5, wS.eq_6, wS.eq_7, wS.eq_8, wS.eq_11, wE.eq_1, wE.eq_2, wE.eq_3, wE.eq_4, wE.eq_5, wE.eq_6, wE.eq_7, wE.eq_8, wE.eq_9, wE.eq_10, wE.eq_11, wE.eq_12, wE.eq_14, wEs, wDi, wBo, wT, wBt, wIfs, wI, itOf, Z.guard, opW, i2, addW, mulW, eqW_int, eqW_bl, eqW_str, newL_f, newL_t, List.length_nil, List.length_cons, truW, bindT, bindTs, Lit.d, Z.keyOf, isAbs, Z.part, seqOf, lstT, lstOf, List.getElem?_cons_zero, List.getElem?_cons_succ, List.set_cons_zero, List.set_cons_succ, Bool.false_xor, Bool.true_xor, lenW_lst, lenW_tup, idx_fst, idx_snd, put_same, put_put, sz0, sz1, sz2, sz3, sz4, sz5, sz6, sz7, sz8, true_and, and_true, implies_true, beq_true, beq_false, Bool.not_false, Bool.not_true]
    rw [getD_ints z1 (by omega), getD_ints z3 (by omega)]
    simp
  · refine hK _ _ ?_
    clear hK K
    have e : (ts.filter fun _ => true).map (fun t => pr (o.getD t.1.toNat 0, o.getD t.2.toNat 0)) = (ts.map fun t => (o.getD t.1.toNat 0, o.getD t.2.toNat 0)).map pr := by
      rw [List.filter_eq_self.mpr fun _ _ => rfl]
      simp
    rw [e]
    have hus : ∀ t ∈ ts.map (fun t => (o.getD t.1.toNat 0, o.getD t.2.toNat 0)), 0 ≤ t.1 ∧ t.1 < 1 + v ∧ 0 ≤ t.2 ∧ t.2 < 1 + v ∧ t.1 ≠ t.2 := by
      intro u hu
      obtain ⟨t, ht, rfl⟩ := List.mem_map.mp hu
      obtain ⟨z1, z2, z3, z4, z5⟩ := hts t ht
      have l1 : t.1.toNat < o.length := by omega
      have l2 : t.2.toNat < o.length := by omega
      have g1 : o.getD t.1.toNat 0 = o[t.1.toNat] := by simp [List.getD, l1]
      have g2 : o.getD t.2.toNat 0 = o[t.2.toNat] := by simp [List.getD, l2]
      show 0 ≤ o.getD t.1.toNat 0 ∧ o.getD t.1.toNat 0 < 1 + v ∧ 0 ≤ o.getD t.2.toNat 0 ∧ o.getD t.2.toNat 0 < 1 + v ∧ o.getD t.1.toNat 0 ≠ o.getD t.2.toNat 0
      rw [g1, g2]
      obtain ⟨a1, a2⟩ := perm_mem ho (List.getElem_mem l1)
      obtain ⟨a3, a4⟩ := perm_mem ho (List.getElem_mem l2)
      refine ⟨a1, a2, a3, a4, fun e => ?_⟩
      have := (List.getElem_inj hnd).mp e
      omega
    have hul : (ts.map (fun t => (o.getD t.1.toNat 0, o.getD t.2.toNat 0))).length ≤ 10000 := by simpa using htl
    generalize ts.map (fun t => (o.getD t.1.toNat 0, o.getD t.2.toNat 0)) = us at hus hul ⊢
    clear e hts htl ts
    refine seq_abs fun K hK => ?_
    simp only [wS.eq_1, wS.eq_2, wS.eq_3, wS.eq_4, wS.eq_5, wS.eq_6, wS.eq_7, wS.eq_8, wS.eq_11, wE.eq_1, wE.eq_2, wE.eq_3, wE.eq_4, wE.eq_5, wE.eq_6, wE.eq_7, wE.eq_8, wE.eq_9, wE.eq_10, wE.eq_11, wE.eq_12, wE.eq_14, wEs, wDi, wBo, wT, wBt, wIfs, wI, itOf, Z.guard, opW, i2, addW, mulW, eqW_int, eqW_bl, eqW_str, newL_f, newL_t, List.length_nil, List.length_cons, truW, bindT, bindTs, Lit.d, Z.keyOf, isAbs, Z.part, seqOf, lstT, lstOf, List.getElem?_cons_zero, List.getElem?_cons_succ, List.set_cons_zero, List.set_cons_succ, Bool.false_xor, Bool.true_xor, lenW_lst, lenW_tup, idx_fst, idx_snd, put_same, put_put, sz0, sz1, sz2, sz3, sz4, sz5, sz6, sz7, sz8, true_and, and_true, implies_true, beq_true, beq_false, Bool.not_false, Bool.not_true]
    refine comp_map pr (callN_mono _) ?_
    simp only [wS.eq_1, wS.eq_2, wS.eq_3, wS.eq_4, wS.eq_5, wS.eq_6, wS.eq_7, wS.eq_8, wS.eq_11, wE.eq_1, wE.eq_2, wE.eq_3, wE.eq_4, wE.eq_5, wE.eq_6, wE.eq_7, wE.eq_8, wE.eq_9, wE.eq_10, wE.eq_11, wE.eq_12, wE.eq_14, wEs, wDi, wBo, wT, wBt, wIfs, wI, itOf, Z.guard, opW, i2, addW, mulW, eqW_int, eqW_bl, eqW_str, newL_f, newL_t, List.length_nil, List.length_cons, truW, bindT, bindTs, Lit.d, Z.keyOf, isAbs, Z.part, seqOf, lstT, lstOf, List.getElem?_cons_zero, List.getElem?_cons_succ, List.set_cons_zero, List.set_cons_succ, Bool.false_xor, Bool.true_xor, lenW_lst, lenW_tup, idx_fst, idx_snd, put_same, put_put, sz0, sz1, sz2, sz3, sz4, sz5, sz6, sz7, sz8, true_and, and_true, implies_true, beq_true, beq_false, Bool.not_false, Bool.not_true]
    refine ⟨us, fun _ => true, fun t => pr (min t.1 t.2, max t.1 t.2), rfl, by omega, ?_, ?_⟩
    · intro t ht M2 _
      simp only [tgSlots, wipeD, pr, intsS_pair, imin2, imax2, wS.eq_1, wS.eq_2, wS.eq_3, wS.eq_4, wS.eq_5, wS.eq_6, wS.eq_7, wS.eq_8, wS.eq_11, wE.eq_1, wE.eq_2, wE.eq_3, wE.eq_4, wE.eq_5, wE.eq_6, wE.eq_7, wE.eq_8, wE.eq_9, wE.eq_10, wE.eq_11, wE.eq_12, wE.eq_14, wEs, wDi, wBo, wT, wBt, wIfs, wI, itOf, Z.guard, opW, i2, addW, mulW, eqW_int, eqW_bl, eqW_str, newL_f, newL_t, List.length_nil, List.length_cons, truW, bindT, bindTs, Lit.d, Z.keyOf, isAbs, Z.part, seqOf, lstT, lstOf, List.getElem?_cons_zero, List.getElem?_cons_succ, List.set_cons_zero, List.set_cons_succ, Bool.false_xor, Bool.true_xor, lenW_lst, lenW_tup, idx_fst, idx_snd, put_same, put_put, sz0, sz1, sz2, sz3, sz4, sz5, sz6, sz7, sz8, true_and, and_true, implies_true, beq_true, beq_false, Bool.not_false, Bool.not_true]
      simp
    · have e : (us.filter fun _ => true).map (fun t => pr (min t.1 t.2, max t.1 t.2)) = (us.map fun t => (min t.1 t.2, max t.1 t.2)).map pr := by
        rw [List.filter_eq_self.mpr fun _ _ => rfl]
        simp
      rw [e]
      have hw : Web (1 + v) (us.map fun t => (min t.1 t.2, max t.1 t.2)) := by
        intro u hu
        obtain ⟨t, ht, rfl⟩ := List.mem_map.mp hu
        obtain ⟨z1, z2, z3, z4, z5⟩ := hus t ht
        show 0 ≤ min t.1 t.2 ∧ min t.1 t.2 < max t.1 t.2 ∧ max t.1 t.2 < 1 + v
        omega
      have hwl : (us.map fun t => (min t.1 t.2, max t.1 t.2)).length ≤ 10000 := by simpa using hul
      generalize us.map (fun t => (min t.1 t.2, max t.1 t.2)) = ws at hw hwl ⊢
      obtain ⟨pp, _⟩ := psort_ok ws
      have hpl := pp.length_eq
      refine sorted_pairs ⟨by simp; omega, ?_⟩
      exact ⟨1 + v, psort ws, rfl, by omega, by omega, fun t ht => hw t (pp.mem_iff.mp ht), by omega, a3, r3, rfl⟩
end KL

set_option Elab.async false
set_option linter.all false
set_option maxRecDepth 100000
set_option maxHeartbeats 0
namespace KL
open PySem PySem.Spec PyProof.Rows L2 Z KM
theorem GG_bool : GG "bool" = some (.ty "bool") := by rfl
theorem GG_int : GG "int" = some (.ty "int") := by rfl
theorem GG_list : GG "list" = some (.ty "list") := by rfl
/-- a set of some of the places, not all -/
def IsSet (n : Int) (s : List Int) : Prop := s.Pairwise (· < ·) ∧ (∀ v ∈ s, 0 ≤ v ∧ v < n) ∧ 1 ≤ s.length ∧ (s.length : Int) < n
def inS (s : List Int) (v : Int) : Bool := decide (v ∈ s)
theorem is_place_spec {n v : Int} {M : MM} (h0 : 0 ≤ v) (h1 : v < n) : callN T GG 2 "is_place" [.int n, .int v] M (fun d M' => d = .bl true ∧ M' = M) nX := by
  refine call_def lk_is_place ⟨rfl, ?_⟩
  simp only [d_is_place, startD, List.map_cons, List.map_nil, List.length_cons, List.length_nil, Nat.zero_add, Nat.reduceAdd, Nat.reduceSub, Nat.sub_self, List.replicate_succ, List.replicate_zero, List.cons_append, List.nil_append, List.append_nil]
  simp only [wSs, wS.eq_1, wS.eq_2, wS.eq_3, wS.eq_4, wS.eq_5, wS.eq_6, wS.eq_7, wS.eq_8, wS.eq_11, wE.eq_1, wE.eq_2, wE.eq_3, wE.eq_4, wE.eq_5, wE.eq_6, wE.eq_7, wE.eq_8, wE.eq_9, wE.eq_10, wE.eq_11, wE.eq_12, wE.eq_14, wEs, wDi, wBo, wT, wBt, wIfs, wI, itOf, Z.guard, opW, i2, addW, mulW, eqW_int, eqW_bl, eqW_str, newL_f, newL_t, List.length_nil, List.length_cons, truW, bindT, bindTs, Lit.d, Z.keyOf, isAbs, Z.part, seqOf, lstT, lstOf, List.getElem?_cons_zero, List.getElem?_cons_succ, List.set_cons_zero, List.set_cons_succ, Bool.false_xor, Bool.true_xor, lenW_lst, lenW_tup, idx_fst, idx_snd, put_same, put_put, sz0, sz1, sz2, sz3, sz4, sz5, sz6, sz7, sz8, true_and, and_true, implies_true, true_imp_iff, beq_true, beq_false, Bool.not_false, Bool.not_true]
  refine call_def lk_is_whole ⟨rfl, ?_⟩
  simp only [d_is_whole, startD, List.map_cons, List.map_nil, List.length_cons, List.length_nil, Nat.zero_add, Nat.reduceAdd, Nat.reduceSub, Nat.sub_self, List.replicate_succ, List.replicate_zero, List.cons_append, List.nil_append, List.append_nil]
  simp only [wSs, GG_int, GG_bool, isi_int_int, isi_int_bool, wS.eq_1, wS.eq_2, wS.eq_3, wS.eq_4, wS.eq_5, wS.eq_6, wS.eq_7, wS.eq_8, wS.eq_11, wE.eq_1, wE.eq_2, wE.eq_3, wE.eq_4, wE.eq_5, wE.eq_6, wE.eq_7, wE.eq_8, wE.eq_9, wE.eq_10, wE.eq_11, wE.eq_12, wE.eq_14, wEs, wDi, wBo, wT, wBt, wIfs, wI, itOf, Z.guard, opW, i2, addW, mulW, eqW_int, eqW_bl, eqW_str, newL_f, newL_t, List.length_nil, List.length_cons, truW, bindT, bindTs, Lit.d, Z.keyOf, isAbs, Z.part, seqOf, lstT, lstOf, List.getElem?_cons_zero, List.getElem?_cons_succ, List.set_cons_zero, List.set_cons_succ, Bool.false_xor, Bool.true_xor, lenW_lst, lenW_tup, idx_fst, idx_snd, put_same, put_put, sz0, sz1, sz2, sz3, sz4, sz5, sz6, sz7, sz8, true_and, and_true, implies_true, true_imp_iff, beq_true, beq_false, Bool.not_false, Bool.not_true]
  have e0 : decide (0 ≤ v) = true := by simpa using h0
  have e1 : decide (v < n) = true := by simpa using h1
  simp only [e0, e1]
theorem is_set_spec {n : Int} {s : List Int} {M : MM} (hs : IsSet n s) (hn : n ≤ 60) : callN T GG 3 "is_set" [.int n, .lst (s.map .int)] M (fun d M' => d = .bl true ∧ M' = M) nX := by
  obtain ⟨h1, h2, h3, h4⟩ := hs
  have hS : sizeLine = 2 ^ 24 := rfl
  refine call_def lk_is_set ⟨rfl, ?_⟩
  simp only [d_is_set, startD, List.map_cons, List.map_nil, List.length_cons, List.length_nil, Nat.zero_add, Nat.reduceAdd, Nat.reduceSub, Nat.sub_self, List.replicate_succ, List.replicate_zero, List.cons_append, List.nil_append, List.append_nil]
  refine seq_abs fun K hK => ?_
  simp only [GG_list, isi_lst_list, wS.eq_1, wS.eq_2, wS.eq_3, wS.eq_4, wS.eq_5, wS.eq_6, wS.eq_7, wS.eq_8, wS.eq_11, wE.eq_1, wE.eq_2, wE.eq_3, wE.eq_4, wE.eq_5, wE.eq_6, wE.eq_7, wE.eq_8, wE.eq_9, wE.eq_10, wE.eq_11, wE.eq_12, wE.eq_14, wEs, wDi, wBo, wT, wBt, wIfs, wI, itOf, Z.guard, opW, i2, addW, mulW, eqW_int, eqW_bl, eqW_str, newL_f, newL_t, List.length_nil, List.length_cons, truW, bindT, bindTs, Lit.d, Z.keyOf, isAbs, Z.part, seqOf, lstT, lstOf, List.getElem?_cons_zero, List.getElem?_cons_succ, List.set_cons_zero, List.set_cons_succ, Bool.false_xor, Bool.true_xor, lenW_lst, lenW_tup, idx_fst, idx_snd, put_same, put_put, sz0, sz1, sz2, sz3, sz4, sz5, sz6, sz7, sz8, true_and, and_true, implies_true, true_imp_iff, beq_true, beq_false, Bool.not_false, Bool.not_true]
  have e0 : decide ((1 : Int) ≤ ((s.map D.int).length : Int)) = true := by simp; omega
  have e1 : decide (((s.map D.int).length : Int) < n) = true := by simp; omega
  simp only [e0, e1, wS.eq_1, wS.eq_2, wS.eq_3, wS.eq_4, wS.eq_5, wS.eq_6, wS.eq_7, wS.eq_8, wS.eq_11, wE.eq_1, wE.eq_2, wE.eq_3, wE.eq_4, wE.eq_5, wE.eq_6, wE.eq_7, wE.eq_8, wE.eq_9, wE.eq_10, wE.eq_11, wE.eq_12, wE.eq_14, wEs, wDi, wBo, wT, wBt, wIfs, wI, itOf, Z.guard, opW, i2, addW, mulW, eqW_int, eqW_bl, eqW_str, newL_f, newL_t, List.length_nil, List.length_cons, truW, bindT, bindTs, Lit.d, Z.keyOf, isAbs, Z.part, seqOf, lstT, lstOf, List.getElem?_cons_zero, List.getElem?_cons_succ, List.set_cons_zero, List.set_cons_succ, Bool.false_xor, Bool.true_xor, lenW_lst, lenW_tup, idx_fst, idx_snd, put_same, put_put, sz0, sz1, sz2, sz3, sz4, sz5, sz6, sz7, sz8, true_and, and_true, implies_true, true_imp_iff, beq_true, beq_false, Bool.not_false, Bool.not_true]
  refine seq_nil (hK _ _ ?_)
  refine seq_abs fun K2 hK2 => ?_
  simp only [wS.eq_1, wS.eq_2, wS.eq_3, wS.eq_4, wS.eq_5, wS.eq_6, wS.eq_7, wS.eq_8, wS.eq_11, wE.eq_1, wE.eq_2, wE.eq_3, wE.eq_4, wE.eq_5, wE.eq_6, wE.eq_7, wE.eq_8, wE.eq_9, wE.eq_10, wE.eq_11, wE.eq_12, wE.eq_14, wEs, wDi, wBo, wT, wBt, wIfs, wI, itOf, Z.guard, opW, i2, addW, mulW, eqW_int, eqW_bl, eqW_str, newL_f, newL_t, List.length_nil, List.length_cons, truW, bindT, bindTs, Lit.d, Z.keyOf, isAbs, Z.part, seqOf, lstT, lstOf, List.getElem?_cons_zero, List.getElem?_cons_succ, List.set_cons_zero, List.set_cons_succ, Bool.false_xor, Bool.true_xor, lenW_lst, lenW_tup, idx_fst, idx_snd, put_same, put_put, sz0, sz1, sz2, sz3, sz4, sz5, sz6, sz7, sz8, true_and, and_true, implies_true, true_imp_iff, beq_true, beq_false, Bool.not_false, Bool.not_true]
  refine comp_map D.int (callN_mono _) ?_
  simp only [wS.eq_1, wS.eq_2, wS.eq_3, wS.eq_4, wS.eq_5, wS.eq_6, wS.eq_7, wS.eq_8, wS.eq_11, wE.eq_1, wE.eq_2, wE.eq_3, wE.eq_4, wE.eq_5, wE.eq_6, wE.eq_7, wE.eq_8, wE.eq_9, wE.eq_10, wE.eq_11, wE.eq_12, wE.eq_14, wEs, wDi, wBo, wT, wBt, wIfs, wI, itOf, Z.guard, opW, i2, addW, mulW, eqW_int, eqW_bl, eqW_str, newL_f, newL_t, List.length_nil, List.length_cons, truW, bindT, bindTs, Lit.d, Z.keyOf, isAbs, Z.part, seqOf, lstT, lstOf, List.getElem?_cons_zero, List.getElem?_cons_succ, List.set_cons_zero, List.set_cons_succ, Bool.false_xor, Bool.true_xor, lenW_lst, lenW_tup, idx_fst, idx_snd, put_same, put_put, sz0, sz1, sz2, sz3, sz4, sz5, sz6, sz7, sz8, true_and, and_true, implies_true, true_imp_iff, beq_true, beq_false, Bool.not_false, Bool.not_true]
  refine ⟨s, fun _ => true, fun _ => .bl true, rfl, by omega, ?_, ?_⟩
  · intro v hv M2 _
    simp only [tgSlots, wipeD, wS.eq_1, wS.eq_2, wS.eq_3, wS.eq_4, wS.eq_5, wS.eq_6, wS.eq_7, wS.eq_8, wS.eq_11, wE.eq_1, wE.eq_2, wE.eq_3, wE.eq_4, wE.eq_5, wE.eq_6, wE.eq_7, wE.eq_8, wE.eq_9, wE.eq_10, wE.eq_11, wE.eq_12, wE.eq_14, wEs, wDi, wBo, wT, wBt, wIfs, wI, itOf, Z.guard, opW, i2, addW, mulW, eqW_int, eqW_bl, eqW_str, newL_f, newL_t, List.length_nil, List.length_cons, truW, bindT, bindTs, Lit.d, Z.keyOf, isAbs, Z.part, seqOf, lstT, lstOf, List.getElem?_cons_zero, List.getElem?_cons_succ, List.set_cons_zero, List.set_cons_succ, Bool.false_xor, Bool.true_xor, lenW_lst, lenW_tup, idx_fst, idx_snd, put_same, put_put, sz0, sz1, sz2, sz3, sz4, sz5, sz6, sz7, sz8, true_and, and_true, implies_true, true_imp_iff, beq_true, beq_false, Bool.not_false, Bool.not_true]
    obtain ⟨v0, v1⟩ := h2 v hv
    refine call_use (is_place_spec v0 v1) (Nat.le_refl 2) ?_
    rintro _ M' ⟨rfl, rfl⟩
    exact ⟨rfl, rfl⟩
  · refine ⟨_, s.map fun _ => true, rfl, ?_, ?_⟩
    · rw [List.filter_eq_self.mpr fun _ _ => rfl]
      have := blsOf_map (s.map fun _ => true)
      rw [List.map_map] at this
      exact this
    · have e : (s.map fun _ => true).all id = true := by simp
      simp only [e, wS.eq_1, wS.eq_2, wS.eq_3, wS.eq_4, wS.eq_5, wS.eq_6, wS.eq_7, wS.eq_8, wS.eq_11, wE.eq_1, wE.eq_2, wE.eq_3, wE.eq_4, wE.eq_5, wE.eq_6, wE.eq_7, wE.eq_8, wE.eq_9, wE.eq_10, wE.eq_11, wE.eq_12, wE.eq_14, wEs, wDi, wBo, wT, wBt, wIfs, wI, itOf, Z.guard, opW, i2, addW, mulW, eqW_int, eqW_bl, eqW_str, newL_f, newL_t, List.length_nil, List.length_cons, truW, bindT, bindTs, Lit.d, Z.keyOf, isAbs, Z.part, seqOf, lstT, lstOf, List.getElem?_cons_zero, List.getElem?_cons_succ, List.set_cons_zero, List.set_cons_succ, Bool.false_xor, Bool.true_xor, lenW_lst, lenW_tup, idx_fst, idx_snd, put_same, put_put, sz0, sz1, sz2, sz3, sz4, sz5, sz6, sz7, sz8, true_and, and_true, implies_true, true_imp_iff, beq_true, beq_false, Bool.not_false, Bool.not_true]
      refine ⟨_, s, rfl, intsOf_map s, by omega, by rw [sset_self h1]; simp; omega, ?_⟩
      rw [sset_self h1]
      refine eqW_ints ?_
      simp
theorem need_set_spec {n : Int} {s : List Int} {M : MM} (hs : IsSet n s) (hn : n ≤ 60) : callN T GG 4 "need_set" [.int n, .lst (s.map .int)] M (fun d M' => M' = M) nX := by
  refine call_def lk_need_set ⟨rfl, ?_⟩
  simp only [d_need_set, startD, List.map_cons, List.map_nil, List.length_cons, List.length_nil, Nat.zero_add, Nat.reduceAdd, Nat.reduceSub, Nat.sub_self, List.replicate_succ, List.replicate_zero, List.cons_append, List.nil_append, List.append_nil]
  refine seq_abs fun K hK => ?_
  simp only [wS.eq_1, wS.eq_2, wS.eq_3, wS.eq_4, wS.eq_5, wS.eq_6, wS.eq_7, wS.eq_8, wS.eq_11, wE.eq_1, wE.eq_2, wE.eq_3, wE.eq_4, wE.eq_5, wE.eq_6, wE.eq_7, wE.eq_8, wE.eq_9, wE.eq_10, wE.eq_11, wE.eq_12, wE.eq_14, wEs, wDi, wBo, wT, wBt, wIfs, wI, itOf, Z.guard, opW, i2, addW, mulW, eqW_int, eqW_bl, eqW_str, newL_f, newL_t, List.length_nil, List.length_cons, truW, bindT, bindTs, Lit.d, Z.keyOf, isAbs, Z.part, seqOf, lstT, lstOf, List.getElem?_cons_zero, List.getElem?_cons_succ, List.set_cons_zero, List.set_cons_succ, Bool.false_xor, Bool.true_xor, lenW_lst, lenW_tup, idx_fst, idx_snd, put_same, put_put, sz0, sz1, sz2, sz3, sz4, sz5, sz6, sz7, sz8, true_and, and_true, implies_true, true_imp_iff, beq_true, beq_false, Bool.not_false, Bool.not_true]
  refine call_use (is_set_spec hs hn) (by omega) ?_
  rintro _ M' ⟨rfl, rfl⟩
  simp only [wS.eq_1, wS.eq_2, wS.eq_3, wS.eq_4, wS.eq_5, wS.eq_6, wS.eq_7, wS.eq_8, wS.eq_11, wE.eq_1, wE.eq_2, wE.eq_3, wE.eq_4, wE.eq_5, wE.eq_6, wE.eq_7, wE.eq_8, wE.eq_9, wE.eq_10, wE.eq_11, wE.eq_12, wE.eq_14, wEs, wDi, wBo, wT, wBt, wIfs, wI, itOf, Z.guard, opW, i2, addW, mulW, eqW_int, eqW_bl, eqW_str, newL_f, newL_t, List.length_nil, List.length_cons, truW, bindT, bindTs, Lit.d, Z.keyOf, isAbs, Z.part, seqOf, lstT, lstOf, List.getElem?_cons_zero, List.getElem?_cons_succ, List.set_cons_zero, List.set_cons_succ, Bool.false_xor, Bool.true_xor, lenW_lst, lenW_tup, idx_fst, idx_snd, put_same, put_put, sz0, sz1, sz2, sz3, sz4, sz5, sz6, sz7, sz8, true_and, and_true, implies_true, true_imp_iff, beq_true, beq_false, Bool.not_false, Bool.not_true]
  exact seq_nil (hK _ _ (seq_nil rfl))
theorem leaving_by_spec {n : Int} {ts : List (Int × Int)} {s : List Int} {M : MM} (hl : ts.length ≤ 10000) :
    callN T GG 1 "leaving_by" [.tup [.int n, .tup (ts.map pr)], .lst (s.map .int)] M (fun d M' => d = .int (cross (inS s) ts : Nat) ∧ M' = M) nX := by
  have hS : sizeLine = 2 ^ 24 := rfl
  refine call_def lk_leaving_by ⟨rfl, ?_⟩
  simp only [d_leaving_by, startD, List.map_cons, List.map_nil, List.length_cons, List.length_nil, Nat.zero_add, Nat.reduceAdd, Nat.reduceSub, Nat.sub_self, List.replicate_succ, List.replicate_zero, List.cons_append, List.nil_append, List.append_nil]
  refine seq_abs fun K hK => ?_
  simp only [wS.eq_1, wS.eq_2, wS.eq_3, wS.eq_4, wS.eq_5, wS.eq_6, wS.eq_7, wS.eq_8, wS.eq_11, wE.eq_1, wE.eq_2, wE.eq_3, wE.eq_4, wE.eq_5, wE.eq_6, wE.eq_7, wE.eq_8, wE.eq_9, wE.eq_10, wE.eq_11, wE.eq_12, wE.eq_14, wEs, wDi, wBo, wT, wBt, wIfs, wI, itOf, Z.guard, opW, i2, addW, mulW, eqW_int, eqW_bl, eqW_str, newL_f, newL_t, List.length_nil, List.length_cons, truW, bindT, bindTs, Lit.d, Z.keyOf, isAbs, Z.part, seqOf, lstT, lstOf, List.getElem?_cons_zero, List.getElem?_cons_succ, List.set_cons_zero, List.set_cons_succ, Bool.false_xor, Bool.true_xor, lenW_lst, lenW_tup, idx_fst, idx_snd, put_same, put_put, sz0, sz1, sz2, sz3, sz4, sz5, sz6, sz7, sz8, true_and, and_true, implies_true, true_imp_iff, beq_true, beq_false, Bool.not_false, Bool.not_true]
  refine comp_map pr (callN_mono _) ?_
  simp only [wS.eq_1, wS.eq_2, wS.eq_3, wS.eq_4, wS.eq_5, wS.eq_6, wS.eq_7, wS.eq_8, wS.eq_11, wE.eq_1, wE.eq_2, wE.eq_3, wE.eq_4, wE.eq_5, wE.eq_6, wE.eq_7, wE.eq_8, wE.eq_9, wE.eq_10, wE.eq_11, wE.eq_12, wE.eq_14, wEs, wDi, wBo, wT, wBt, wIfs, wI, itOf, Z.guard, opW, i2, addW, mulW, eqW_int, eqW_bl, eqW_str, newL_f, newL_t, List.length_nil, List.length_cons, truW, bindT, bindTs, Lit.d, Z.keyOf, isAbs, Z.part, seqOf, lstT, lstOf, List.getElem?_cons_zero, List.getElem?_cons_succ, List.set_cons_zero, List.set_cons_succ, Bool.false_xor, Bool.true_xor, lenW_lst, lenW_tup, idx_fst, idx_snd, put_same, put_put, sz0, sz1, sz2, sz3, sz4, sz5, sz6, sz7, sz8, true_and, and_true, implies_true, true_imp_iff, beq_true, beq_false, Bool.not_false, Bool.not_true]
  refine ⟨ts, cr (inS s), pr, rfl, by omega, ?_, ?_⟩
  · intro t ht M2 _
    simp only [tgSlots, wipeD, pr, wS.eq_1, wS.eq_2, wS.eq_3, wS.eq_4, wS.eq_5, wS.eq_6, wS.eq_7, wS.eq_8, wS.eq_11, wE.eq_1, wE.eq_2, wE.eq_3, wE.eq_4, wE.eq_5, wE.eq_6, wE.eq_7, wE.eq_8, wE.eq_9, wE.eq_10, wE.eq_11, wE.eq_12, wE.eq_14, wEs, wDi, wBo, wT, wBt, wIfs, wI, itOf, Z.guard, opW, i2, addW, mulW, eqW_int, eqW_bl, eqW_str, newL_f, newL_t, List.length_nil, List.length_cons, truW, bindT, bindTs, Lit.d, Z.keyOf, isAbs, Z.part, seqOf, lstT, lstOf, List.getElem?_cons_zero, List.getElem?_cons_succ, List.set_cons_zero, List.set_cons_succ, Bool.false_xor, Bool.true_xor, lenW_lst, lenW_tup, idx_fst, idx_snd, put_same, put_put, sz0, sz1, sz2, sz3, sz4, sz5, sz6, sz7, sz8, true_and, and_true, implies_true, true_imp_iff, beq_true, beq_false, Bool.not_false, Bool.not_true]
    refine in_ints (ns := s) (by rfl) ?_
    refine in_ints (ns := s) (by rfl) ?_
    simp only [wS.eq_1, wS.eq_2, wS.eq_3, wS.eq_4, wS.eq_5, wS.eq_6, wS.eq_7, wS.eq_8, wS.eq_11, wE.eq_1, wE.eq_2, wE.eq_3, wE.eq_4, wE.eq_5, wE.eq_6, wE.eq_7, wE.eq_8, wE.eq_9, wE.eq_10, wE.eq_11, wE.eq_12, wE.eq_14, wEs, wDi, wBo, wT, wBt, wIfs, wI, itOf, Z.guard, opW, i2, addW, mulW, eqW_int, eqW_bl, eqW_str, newL_f, newL_t, List.length_nil, List.length_cons, truW, bindT, bindTs, Lit.d, Z.keyOf, isAbs, Z.part, seqOf, lstT, lstOf, List.getElem?_cons_zero, List.getElem?_cons_succ, List.set_cons_zero, List.set_cons_succ, Bool.false_xor, Bool.true_xor, lenW_lst, lenW_tup, idx_fst, idx_snd, put_same, put_put, sz0, sz1, sz2, sz3, sz4, sz5, sz6, sz7, sz8, true_and, and_true, implies_true, true_imp_iff, beq_true, beq_false, Bool.not_false, Bool.not_true]
    unfold cr inS
    cases decide (t.1 ∈ s) <;> cases decide (t.2 ∈ s) <;> rfl
  · simp [cross, List.countP_eq_length_filter]
theorem need_by_spec {n : Int} {f : Int} {ts : List (Int × Int)} {s : List Int} {M : MM} (hl : ts.length ≤ 10000) :
    callN T GG 2 "need_by" [.tup [.int n, .tup (ts.map pr)], .int f, .lst (s.map .int)] M (fun d M' => d = .int (max 0 (f + 1 - (cross (inS s) ts : Nat))) ∧ M' = M) nX := by
  refine call_def lk_need_by ⟨rfl, ?_⟩
  simp only [d_need_by, startD, List.map_cons, List.map_nil, List.length_cons, List.length_nil, Nat.zero_add, Nat.reduceAdd, Nat.reduceSub, Nat.sub_self, List.replicate_succ, List.replicate_zero, List.cons_append, List.nil_append, List.append_nil]
  simp only [wSs, wS.eq_1, wS.eq_2, wS.eq_3, wS.eq_4, wS.eq_5, wS.eq_6, wS.eq_7, wS.eq_8, wS.eq_11, wE.eq_1, wE.eq_2, wE.eq_3, wE.eq_4, wE.eq_5, wE.eq_6, wE.eq_7, wE.eq_8, wE.eq_9, wE.eq_10, wE.eq_11, wE.eq_12, wE.eq_14, wEs, wDi, wBo, wT, wBt, wIfs, wI, itOf, Z.guard, opW, i2, addW, mulW, eqW_int, eqW_bl, eqW_str, newL_f, newL_t, List.length_nil, List.length_cons, truW, bindT, bindTs, Lit.d, Z.keyOf, isAbs, Z.part, seqOf, lstT, lstOf, List.getElem?_cons_zero, List.getElem?_cons_succ, List.set_cons_zero, List.set_cons_succ, Bool.false_xor, Bool.true_xor, lenW_lst, lenW_tup, idx_fst, idx_snd, put_same, put_put, sz0, sz1, sz2, sz3, sz4, sz5, sz6, sz7, sz8, true_and, and_true, implies_true, true_imp_iff, beq_true, beq_false, Bool.not_false, Bool.not_true]
  refine call_use (leaving_by_spec hl) (by omega) ?_
  rintro _ M' ⟨rfl, rfl⟩
  simp only [wS.eq_1, wS.eq_2, wS.eq_3, wS.eq_4, wS.eq_5, wS.eq_6, wS.eq_7, wS.eq_8, wS.eq_11, wE.eq_1, wE.eq_2, wE.eq_3, wE.eq_4, wE.eq_5, wE.eq_6, wE.eq_7, wE.eq_8, wE.eq_9, wE.eq_10, wE.eq_11, wE.eq_12, wE.eq_14, wEs, wDi, wBo, wT, wBt, wIfs, wI, itOf, Z.guard, opW, i2, addW, mulW, eqW_int, eqW_bl, eqW_str, newL_f, newL_t, List.length_nil, List.length_cons, truW, bindT, bindTs, Lit.d, Z.keyOf, isAbs, Z.part, seqOf, lstT, lstOf, List.getElem?_cons_zero, List.getElem?_cons_succ, List.set_cons_zero, List.set_cons_succ, Bool.false_xor, Bool.true_xor, lenW_lst, lenW_tup, idx_fst, idx_snd, put_same, put_put, sz0, sz1, sz2, sz3, sz4, sz5, sz6, sz7, sz8, true_and, and_true, implies_true, true_imp_iff, beq_true, beq_false, Bool.not_false, Bool.not_true]
theorem leaving_spec {n : Int} {ts : List (Int × Int)} {s : List Int} {M : MM} (hl : ts.length ≤ 10000) (hs : IsSet n s) (hn : n ≤ 60) :
    callN T GG 5 "leaving" [.tup [.int n, .tup (ts.map pr)], .lst (s.map .int)] M (fun d M' => d = .int (cross (inS s) ts : Nat) ∧ M' = M) nX := by
  refine call_def lk_leaving ⟨rfl, ?_⟩
  simp only [d_leaving, startD, List.map_cons, List.map_nil, List.length_cons, List.length_nil, Nat.zero_add, Nat.reduceAdd, Nat.reduceSub, Nat.sub_self, List.replicate_succ, List.replicate_zero, List.cons_append, List.nil_append, List.append_nil]
  refine seq_abs fun K hK => ?_
  simp only [wS.eq_1, wS.eq_2, wS.eq_3, wS.eq_4, wS.eq_5, wS.eq_6, wS.eq_7, wS.eq_8, wS.eq_11, wE.eq_1, wE.eq_2, wE.eq_3, wE.eq_4, wE.eq_5, wE.eq_6, wE.eq_7, wE.eq_8, wE.eq_9, wE.eq_10, wE.eq_11, wE.eq_12, wE.eq_14, wEs, wDi, wBo, wT, wBt, wIfs, wI, itOf, Z.guard, opW, i2, addW, mulW, eqW_int, eqW_bl, eqW_str, newL_f, newL_t, List.length_nil, List.length_cons, truW, bindT, bindTs, Lit.d, Z.keyOf, isAbs, Z.part, seqOf, lstT, lstOf, List.getElem?_cons_zero, List.getElem?_cons_succ, List.set_cons_zero, List.set_cons_succ, Bool.false_xor, Bool.true_xor, lenW_lst, lenW_tup, idx_fst, idx_snd, put_same, put_put, sz0, sz1, sz2, sz3, sz4, sz5, sz6, sz7, sz8, true_and, and_true, implies_true, true_imp_iff, beq_true, beq_false, Bool.not_false, Bool.not_true]
  refine call_use (need_set_spec hs hn) (by omega) ?_
  rintro _ M' rfl
  refine hK _ _ ?_
  simp only [wSs, wS.eq_1, wS.eq_2, wS.eq_3, wS.eq_4, wS.eq_5, wS.eq_6, wS.eq_7, wS.eq_8, wS.eq_11, wE.eq_1, wE.eq_2, wE.eq_3, wE.eq_4, wE.eq_5, wE.eq_6, wE.eq_7, wE.eq_8, wE.eq_9, wE.eq_10, wE.eq_11, wE.eq_12, wE.eq_14, wEs, wDi, wBo, wT, wBt, wIfs, wI, itOf, Z.guard, opW, i2, addW, mulW, eqW_int, eqW_bl, eqW_str, newL_f, newL_t, List.length_nil, List.length_cons, truW, bindT, bindTs, Lit.d, Z.keyOf, isAbs, Z.part, seqOf, lstT, lstOf, List.getElem?_cons_zero, List.getElem?_cons_succ, List.set_cons_zero, List.set_cons_succ, Bool.false_xor, Bool.true_xor, lenW_lst, lenW_tup, idx_fst, idx_snd, put_same, put_put, sz0, sz1, sz2, sz3, sz4, sz5, sz6, sz7, sz8, true_and, and_true, implies_true, true_imp_iff, beq_true, beq_false, Bool.not_false, Bool.not_true]
  exact call_use (leaving_by_spec hl) (by omega) fun d M' h => h
theorem need_spec {n : Int} {f : Int} {ts : List (Int × Int)} {s : List Int} {M : MM} (hl : ts.length ≤ 10000) (hs : IsSet n s) (hn : n ≤ 60) :
    callN T GG 5 "need" [.tup [.int n, .tup (ts.map pr)], .int f, .lst (s.map .int)] M (fun d M' => d = .int (max 0 (f + 1 - (cross (inS s) ts : Nat))) ∧ M' = M) nX := by
  refine call_def lk_need ⟨rfl, ?_⟩
  simp only [d_need, startD, List.map_cons, List.map_nil, List.length_cons, List.length_nil, Nat.zero_add, Nat.reduceAdd, Nat.reduceSub, Nat.sub_self, List.replicate_succ, List.replicate_zero, List.cons_append, List.nil_append, List.append_nil]
  refine seq_abs fun K hK => ?_
  simp only [wS.eq_1, wS.eq_2, wS.eq_3, wS.eq_4, wS.eq_5, wS.eq_6, wS.eq_7, wS.eq_8, wS.eq_11, wE.eq_1, wE.eq_2, wE.eq_3, wE.eq_4, wE.eq_5, wE.eq_6, wE.eq_7, wE.eq_8, wE.eq_9, wE.eq_10, wE.eq_11, wE.eq_12, wE.eq_14, wEs, wDi, wBo, wT, wBt, wIfs, wI, itOf, Z.guard, opW, i2, addW, mulW, eqW_int, eqW_bl, eqW_str, newL_f, newL_t, List.length_nil, List.length_cons, truW, bindT, bindTs, Lit.d, Z.keyOf, isAbs, Z.part, seqOf, lstT, lstOf, List.getElem?_cons_zero, List.getElem?_cons_succ, List.set_cons_zero, List.set_cons_succ, Bool.false_xor, Bool.true_xor, lenW_lst, lenW_tup, idx_fst, idx_snd, put_same, put_put, sz0, sz1, sz2, sz3, sz4, sz5, sz6, sz7, sz8, true_and, and_true, implies_true, true_imp_iff, beq_true, beq_false, Bool.not_false, Bool.not_true]
  refine call_use (need_set_spec hs hn) (by omega) ?_
  rintro _ M' rfl
  refine hK _ _ ?_
  simp only [wSs, wS.eq_1, wS.eq_2, wS.eq_3, wS.eq_4, wS.eq_5, wS.eq_6, wS.eq_7, wS.eq_8, wS.eq_11, wE.eq_1, wE.eq_2, wE.eq_3, wE.eq_4, wE.eq_5, wE.eq_6, wE.eq_7, wE.eq_8, wE.eq_9, wE.eq_10, wE.eq_11, wE.eq_12, wE.eq_14, wEs, wDi, wBo, wT, wBt, wIfs, wI, itOf, Z.guard, opW, i2, addW, mulW, eqW_int, eqW_bl, eqW_str, newL_f, newL_t, List.length_nil, List.length_cons, truW, bindT, bindTs, Lit.d, Z.keyOf, isAbs, Z.part, seqOf, lstT, lstOf, List.getElem?_cons_zero, List.getElem?_cons_succ, List.set_cons_zero, List.set_cons_succ, Bool.false_xor, Bool.true_xor, lenW_lst, lenW_tup, idx_fst, idx_snd, put_same, put_put, sz0, sz1, sz2, sz3, sz4, sz5, sz6, sz7, sz8, true_and, and_true, implies_true, true_imp_iff, beq_true, beq_false, Bool.not_false, Bool.not_true]
  exact call_use (need_by_spec hl) (by omega) fun d M' h => h
theorem law_leaving_spec {ts : List (Int × Int)} {s : List Int} {M : MM} (hl : ts.length ≤ 10000) :
    callN T GG 1 "_law_leaving" [.tup (ts.map pr), .lst (s.map .int)] M (fun d M' => d = .int (cross (inS s) ts : Nat) ∧ M' = M) nX := by
  have hS : sizeLine = 2 ^ 24 := rfl
  refine call_def lk__law_leaving ⟨rfl, ?_⟩
  simp only [d__law_leaving, startD, List.map_cons, List.map_nil, List.length_cons, List.length_nil, Nat.zero_add, Nat.reduceAdd, Nat.reduceSub, Nat.sub_self, List.replicate_succ, List.replicate_zero, List.cons_append, List.nil_append, List.append_nil]
  refine seq_abs fun K hK => ?_
  simp only [wS.eq_1, wS.eq_2, wS.eq_3, wS.eq_4, wS.eq_5, wS.eq_6, wS.eq_7, wS.eq_8, wS.eq_11, wE.eq_1, wE.eq_2, wE.eq_3, wE.eq_4, wE.eq_5, wE.eq_6, wE.eq_7, wE.eq_8, wE.eq_9, wE.eq_10, wE.eq_11, wE.eq_12, wE.eq_14, wEs, wDi, wBo, wT, wBt, wIfs, wI, itOf, Z.guard, opW, i2, addW, mulW, eqW_int, eqW_bl, eqW_str, newL_f, newL_t, List.length_nil, List.length_cons, truW, bindT, bindTs, Lit.d, Z.keyOf, isAbs, Z.part, seqOf, lstT, lstOf, List.getElem?_cons_zero, List.getElem?_cons_succ, List.set_cons_zero, List.set_cons_succ, Bool.false_xor, Bool.true_xor, lenW_lst, lenW_tup, idx_fst, idx_snd, put_same, put_put, sz0, sz1, sz2, sz3, sz4, sz5, sz6, sz7, sz8, true_and, and_true, implies_true, true_imp_iff, beq_true, beq_false, Bool.not_false, Bool.not_true]
  refine comp_map pr (callN_mono _) ?_
  simp only [wS.eq_1, wS.eq_2, wS.eq_3, wS.eq_4, wS.eq_5, wS.eq_6, wS.eq_7, wS.eq_8, wS.eq_11, wE.eq_1, wE.eq_2, wE.eq_3, wE.eq_4, wE.eq_5, wE.eq_6, wE.eq_7, wE.eq_8, wE.eq_9, wE.eq_10, wE.eq_11, wE.eq_12, wE.eq_14, wEs, wDi, wBo, wT, wBt, wIfs, wI, itOf, Z.guard, opW, i2, addW, mulW, eqW_int, eqW_bl, eqW_str, newL_f, newL_t, List.length_nil, List.length_cons, truW, bindT, bindTs, Lit.d, Z.keyOf, isAbs, Z.part, seqOf, lstT, lstOf, List.getElem?_cons_zero, List.getElem?_cons_succ, List.set_cons_zero, List.set_cons_succ, Bool.false_xor, Bool.true_xor, lenW_lst, lenW_tup, idx_fst, idx_snd, put_same, put_put, sz0, sz1, sz2, sz3, sz4, sz5, sz6, sz7, sz8, true_and, and_true, implies_true, true_imp_iff, beq_true, beq_false, Bool.not_false, Bool.not_true]
  refine ⟨ts, cr (inS s), pr, rfl, by omega, ?_, ?_⟩
  · intro t ht M2 _
    simp only [tgSlots, wipeD, pr, wS.eq_1, wS.eq_2, wS.eq_3, wS.eq_4, wS.eq_5, wS.eq_6, wS.eq_7, wS.eq_8, wS.eq_11, wE.eq_1, wE.eq_2, wE.eq_3, wE.eq_4, wE.eq_5, wE.eq_6, wE.eq_7, wE.eq_8, wE.eq_9, wE.eq_10, wE.eq_11, wE.eq_12, wE.eq_14, wEs, wDi, wBo, wT, wBt, wIfs, wI, itOf, Z.guard, opW, i2, addW, mulW, eqW_int, eqW_bl, eqW_str, newL_f, newL_t, List.length_nil, List.length_cons, truW, bindT, bindTs, Lit.d, Z.keyOf, isAbs, Z.part, seqOf, lstT, lstOf, List.getElem?_cons_zero, List.getElem?_cons_succ, List.set_cons_zero, List.set_cons_succ, Bool.false_xor, Bool.true_xor, lenW_lst, lenW_tup, idx_fst, idx_snd, put_same, put_put, sz0, sz1, sz2, sz3, sz4, sz5, sz6, sz7, sz8, true_and, and_true, implies_true, true_imp_iff, beq_true, beq_false, Bool.not_false, Bool.not_true]
    refine in_ints (ns := s) (by rfl) ?_
    refine in_ints (ns := s) (by rfl) ?_
    simp only [wS.eq_1, wS.eq_2, wS.eq_3, wS.eq_4, wS.eq_5, wS.eq_6, wS.eq_7, wS.eq_8, wS.eq_11, wE.eq_1, wE.eq_2, wE.eq_3, wE.eq_4, wE.eq_5, wE.eq_6, wE.eq_7, wE.eq_8, wE.eq_9, wE.eq_10, wE.eq_11, wE.eq_12, wE.eq_14, wEs, wDi, wBo, wT, wBt, wIfs, wI, itOf, Z.guard, opW, i2, addW, mulW, eqW_int, eqW_bl, eqW_str, newL_f, newL_t, List.length_nil, List.length_cons, truW, bindT, bindTs, Lit.d, Z.keyOf, isAbs, Z.part, seqOf, lstT, lstOf, List.getElem?_cons_zero, List.getElem?_cons_succ, List.set_cons_zero, List.set_cons_succ, Bool.false_xor, Bool.true_xor, lenW_lst, lenW_tup, idx_fst, idx_snd, put_same, put_put, sz0, sz1, sz2, sz3, sz4, sz5, sz6, sz7, sz8, true_and, and_true, implies_true, true_imp_iff, beq_true, beq_false, Bool.not_false, Bool.not_true]
    unfold cr inS
    cases decide (t.1 ∈ s) <;> cases decide (t.2 ∈ s) <;> rfl
  · simp [cross, List.countP_eq_length_filter]
theorem whole_spec {i j : Int} {M : MM} : callN T GG 1 "_law_whole" [.int i, .int j] M (fun d M' => d = .bl (decide (i = j)) ∧ M' = M) nX := by
  refine call_def lk__law_whole ⟨rfl, ?_⟩
  simp only [d__law_whole, startD, List.map_cons, List.map_nil, List.length_cons, List.length_nil, Nat.zero_add, Nat.reduceAdd, Nat.reduceSub, Nat.sub_self, List.replicate_succ, List.replicate_zero, List.cons_append, List.nil_append, List.append_nil]
  simp only [wSs, GG_int, GG_bool, isi_int_int, isi_int_bool, wS.eq_1, wS.eq_2, wS.eq_3, wS.eq_4, wS.eq_5, wS.eq_6, wS.eq_7, wS.eq_8, wS.eq_11, wE.eq_1, wE.eq_2, wE.eq_3, wE.eq_4, wE.eq_5, wE.eq_6, wE.eq_7, wE.eq_8, wE.eq_9, wE.eq_10, wE.eq_11, wE.eq_12, wE.eq_14, wEs, wDi, wBo, wT, wBt, wIfs, wI, itOf, Z.guard, opW, i2, addW, mulW, eqW_int, eqW_bl, eqW_str, newL_f, newL_t, List.length_nil, List.length_cons, truW, bindT, bindTs, Lit.d, Z.keyOf, isAbs, Z.part, seqOf, lstT, lstOf, List.getElem?_cons_zero, List.getElem?_cons_succ, List.set_cons_zero, List.set_cons_succ, Bool.false_xor, Bool.true_xor, lenW_lst, lenW_tup, idx_fst, idx_snd, put_same, put_put, sz0, sz1, sz2, sz3, sz4, sz5, sz6, sz7, sz8, true_and, and_true, implies_true, true_imp_iff, beq_true, beq_false, Bool.not_false, Bool.not_true]
end KL

set_option Elab.async false
set_option linter.all false
set_option maxRecDepth 100000
set_option maxHeartbeats 0
namespace KL
open PySem PySem.Spec PyProof.Rows L2 Z KM
theorem cut_take {l : List D} {k : Nat} : Z.cutD l none (some (k : Int)) = l.take k := by
  unfold Z.cutD
  rw [HT.sIx_nat]
  show (l.drop 0).take (min k l.length - 0) = _
  rw [List.drop_zero, Nat.sub_zero, ← List.take_eq_take_min]
theorem law_set_spec {M : MM} {p : Addr} {cells : List Int} {a r n : Int} (hp : M p = some (penO cells a r)) (hc : cells.length ≤ 63) (h0 : 2 ≤ n) (h1 : n ≤ 60) :
    callN T GG 3 "_law_set" [.cell p, .int n] M (fun d M' => ∃ s : List Int, d = .lst (s.map .int) ∧ IsSet n s ∧ PenR M p cells M') nX := by
  have hS : sizeLine = 2 ^ 24 := rfl
  refine call_def lk__law_set ⟨rfl, ?_⟩
  simp only [d__law_set, startD, List.map_cons, List.map_nil, List.length_cons, List.length_nil, Nat.zero_add, Nat.reduceAdd, Nat.reduceSub, Nat.sub_self, List.replicate_succ, List.replicate_zero, List.cons_append, List.nil_append, List.append_nil]
  refine seq_abs fun K hK => ?_
  simp only [wS.eq_1, wS.eq_2, wS.eq_3, wS.eq_4, wS.eq_5, wS.eq_6, wS.eq_7, wS.eq_8, wS.eq_11, wE.eq_1, wE.eq_2, wE.eq_3, wE.eq_4, wE.eq_5, wE.eq_6, wE.eq_7, wE.eq_8, wE.eq_9, wE.eq_10, wE.eq_11, wE.eq_12, wE.eq_14, wEs, wDi, wBo, wT, wBt, wIfs, wI, itOf, Z.guard, opW, i2, addW, mulW, eqW_int, eqW_bl, eqW_str, newL_f, newL_t, List.length_nil, List.length_cons, truW, bindT, bindTs, Lit.d, Z.keyOf, isAbs, Z.part, seqOf, lstT, lstOf, List.getElem?_cons_zero, List.getElem?_cons_succ, List.set_cons_zero, List.set_cons_succ, Bool.false_xor, Bool.true_xor, lenW_lst, lenW_tup, idx_fst, idx_snd, put_same, put_put, sz0, sz1, sz2, sz3, sz4, sz5, sz6, sz7, sz8, true_and, and_true, implies_true, true_imp_iff, beq_true, beq_false, Bool.not_false, Bool.not_true]
  refine call_use (draw_spec hp hc (by omega) (by omega)) (by omega) ?_
  rintro _ M1 ⟨v, a1, r1, rfl, v0, v1, rfl⟩
  refine hK _ _ ?_
  simp only [wSs, wS.eq_1, wS.eq_2, wS.eq_3, wS.eq_4, wS.eq_5, wS.eq_6, wS.eq_7, wS.eq_8, wS.eq_11, wE.eq_1, wE.eq_2, wE.eq_3, wE.eq_4, wE.eq_5, wE.eq_6, wE.eq_7, wE.eq_8, wE.eq_9, wE.eq_10, wE.eq_11, wE.eq_12, wE.eq_14, wEs, wDi, wBo, wT, wBt, wIfs, wI, itOf, Z.guard, opW, i2, addW, mulW, eqW_int, eqW_bl, eqW_str, newL_f, newL_t, List.length_nil, List.length_cons, truW, bindT, bindTs, Lit.d, Z.keyOf, isAbs, Z.part, seqOf, lstT, lstOf, List.getElem?_cons_zero, List.getElem?_cons_succ, List.set_cons_zero, List.set_cons_succ, Bool.false_xor, Bool.true_xor, lenW_lst, lenW_tup, idx_fst, idx_snd, put_same, put_put, sz0, sz1, sz2, sz3, sz4, sz5, sz6, sz7, sz8, true_and, and_true, implies_true, true_imp_iff, beq_true, beq_false, Bool.not_false, Bool.not_true]
  refine call_use (order_spec put_same hc (by omega) (by omega)) (by omega) ?_
  rintro _ M2 ⟨o, rfl, ho, a2, r2, rfl⟩
  have hol := perm_len ho
  have hnd := perm_nd ho
  simp only [sliceW, wS.eq_1, wS.eq_2, wS.eq_3, wS.eq_4, wS.eq_5, wS.eq_6, wS.eq_7, wS.eq_8, wS.eq_11, wE.eq_1, wE.eq_2, wE.eq_3, wE.eq_4, wE.eq_5, wE.eq_6, wE.eq_7, wE.eq_8, wE.eq_9, wE.eq_10, wE.eq_11, wE.eq_12, wE.eq_14, wEs, wDi, wBo, wT, wBt, wIfs, wI, itOf, Z.guard, opW, i2, addW, mulW, eqW_int, eqW_bl, eqW_str, newL_f, newL_t, List.length_nil, List.length_cons, truW, bindT, bindTs, Lit.d, Z.keyOf, isAbs, Z.part, seqOf, lstT, lstOf, List.getElem?_cons_zero, List.getElem?_cons_succ, List.set_cons_zero, List.set_cons_succ, Bool.false_xor, Bool.true_xor, lenW_lst, lenW_tup, idx_fst, idx_snd, put_same, put_put, sz0, sz1, sz2, sz3, sz4, sz5, sz6, sz7, sz8, true_and, and_true, implies_true, true_imp_iff, beq_true, beq_false, Bool.not_false, Bool.not_true]
  obtain ⟨k, hk⟩ := Int.eq_ofNat_of_zero_le (by omega : 0 ≤ 1 + v)
  have e : Z.cutD (o.map D.int) none (some (1 + v)) = (o.take k).map D.int := by
    rw [hk, cut_take, List.map_take]
  rw [e]
  refine ⟨by simp; omega, ?_⟩
  obtain ⟨pp, ps⟩ := isort_ok (o.take k)
  have pl := pp.length_eq
  have hlen : (o.take k).length = k := by
    rw [List.length_take]; omega
  refine sorted_ints ⟨by simp; omega, ?_⟩
  refine ⟨isort (o.take k), rfl, ⟨?_, fun w hw => perm_mem ho (List.mem_of_mem_take (pp.mem_iff.mp hw)), by omega, by omega⟩, a2, r2, rfl⟩
  have nd : (isort (o.take k)).Nodup := pp.nodup_iff.mpr (hnd.sublist (List.take_sublist _ _))
  exact List.Pairwise.imp₂ (fun x y h1 h2 => by have h1 : x ≤ y := h1; have h2 : x ≠ y := h2; omega) ps nd
theorem all_le : ∀ (m : Nat) (l : List Int), (∀ v : Int, 0 ≤ v → v < m → v ∈ l) → m ≤ l.length
  | 0, l, _ => by omega
  | m + 1, l, hl => by
    have hm := hl m (by omega) (by omega)
    have := all_le m (l.erase (m : Int)) fun v v0 v1 => (List.mem_erase_of_ne (by omega)).mpr (hl v v0 (by omega))
    rw [List.length_erase_of_mem hm] at this
    have := List.length_pos_of_mem hm
    omega
/-- the places that are not in s -/
def others (n : Nat) (s : List Int) : List Int := ((List.range n).filter fun (k : Nat) => !decide ((0 + (k : Int)) ∈ s)).map fun (k : Nat) => 0 + (k : Int)
theorem others_mem {n : Nat} {s : List Int} {v : Int} : v ∈ others n s ↔ 0 ≤ v ∧ v < n ∧ v ∉ s := by
  unfold others
  simp only [List.mem_map, List.mem_filter, List.mem_range, Bool.not_eq_true', decide_eq_false_iff_not]
  constructor
  · rintro ⟨k, ⟨h1, h2⟩, rfl⟩
    exact ⟨by omega, by omega, h2⟩
  · rintro ⟨h0, h1, h2⟩
    obtain ⟨k, rfl⟩ := Int.eq_ofNat_of_zero_le h0
    exact ⟨k, ⟨by omega, by simpa using h2⟩, by simp⟩
theorem others_set {n : Nat} {s : List Int} (hs : IsSet n s) : IsSet n (others n s) := by
  obtain ⟨h1, h2, h3, h4⟩ := hs
  have hp : (others n s).Pairwise (· < ·) := by
    unfold others
    rw [List.pairwise_map]
    exact List.Pairwise.imp (fun h => by omega) (List.Pairwise.sublist List.filter_sublist List.pairwise_lt_range)
  have hb : ∀ v ∈ others n s, 0 ≤ v ∧ v < n := fun v hv => ⟨(others_mem.mp hv).1, (others_mem.mp hv).2.1⟩
  refine ⟨hp, hb, ?_, ?_⟩
  · rcases Nat.eq_zero_or_pos (others n s).length with e | e
    · have e := List.length_eq_zero_iff.mp e
      have := all_le n s fun v v0 v1 => by
        apply Classical.byContradiction
        intro h
        have : v ∈ others n s := others_mem.mpr ⟨v0, v1, h⟩
        rw [e] at this
        cases this
      omega
    · exact e
  · cases s with
    | nil => simp at h3
    | cons w s =>
      obtain ⟨w0, w1⟩ := h2 w (by simp)
      have nd : (others n (w :: s)).Nodup := hp.imp fun h e => by omega
      have := nodup_le n (w :: others n (w :: s)) (List.nodup_cons.mpr ⟨fun h => (others_mem.mp h).2.2 (by simp), nd⟩) fun v hv => by
        rcases List.mem_cons.mp hv with rfl | hv
        · omega
        · have := hb v hv; omega
      simp at this
      omega
theorem cross_others {n : Nat} {s : List Int} {ts : List (Int × Int)} (hw : Web n ts) : cross (inS (others n s)) ts = cross (inS s) ts := by
  unfold cross
  refine List.countP_congr fun t ht => ?_
  obtain ⟨w1, w2, w3⟩ := hw t ht
  have e : ∀ v : Int, 0 ≤ v → v < n → inS (others n s) v = !inS s v := fun v v0 v1 => by
    unfold inS
    by_cases h : v ∈ s
    · have : v ∉ others n s := fun h' => (others_mem.mp h').2.2 h
      simp [h, this]
    · have : v ∈ others n s := others_mem.mpr ⟨v0, v1, h⟩
      simp [h, this]
  unfold cr
  rw [e t.1 w1 (by omega), e t.2 (by omega) w3]
  cases inS s t.1 <;> cases inS s t.2 <;> simp
theorem law_spec (ns : List Int) (h : ns.length ≤ 63) : callN T GG 200 "law" [.scr ns] noM (fun d _ => d = .bl true) fun _ _ => False := by
  have hS : sizeLine = 2 ^ 24 := rfl
  refine call_def lk_law ⟨rfl, ?_⟩
  simp only [d_law, startD, List.map_cons, List.map_nil, List.length_cons, List.length_nil, Nat.zero_add, Nat.reduceAdd, Nat.reduceSub, Nat.sub_self, List.replicate_succ, List.replicate_zero, List.cons_append, List.nil_append, List.append_nil]
  refine seq_abs fun K hK => ?_
  simp only [wS.eq_1, wS.eq_2, wS.eq_3, wS.eq_4, wS.eq_5, wS.eq_6, wS.eq_7, wS.eq_8, wS.eq_11, wE.eq_1, wE.eq_2, wE.eq_3, wE.eq_4, wE.eq_5, wE.eq_6, wE.eq_7, wE.eq_8, wE.eq_9, wE.eq_10, wE.eq_11, wE.eq_12, wE.eq_14, wEs, wDi, wBo, wT, wBt, wIfs, wI, itOf, Z.guard, opW, i2, addW, mulW, eqW_int, eqW_bl, eqW_str, newL_f, newL_t, List.length_nil, List.length_cons, truW, bindT, bindTs, Lit.d, Z.keyOf, isAbs, Z.part, seqOf, lstT, lstOf, List.getElem?_cons_zero, List.getElem?_cons_succ, List.set_cons_zero, List.set_cons_succ, Bool.false_xor, Bool.true_xor, lenW_lst, lenW_tup, idx_fst, idx_snd, put_same, put_put, sz0, sz1, sz2, sz3, sz4, sz5, sz6, sz7, sz8, true_and, and_true, implies_true, true_imp_iff, beq_true, beq_false, Bool.not_false, Bool.not_true]
  refine call_use pen_spec (by omega) ?_
  rintro _ m0 ⟨p, cells, rfl, -, hc, rfl⟩
  refine hK _ _ ?_
  clear hK K
  refine seq_abs fun K hK => ?_
  refine for_rule (callN_mono _) ?_
  simp only [wS.eq_1, wS.eq_2, wS.eq_3, wS.eq_4, wS.eq_5, wS.eq_6, wS.eq_7, wS.eq_8, wS.eq_11, wE.eq_1, wE.eq_2, wE.eq_3, wE.eq_4, wE.eq_5, wE.eq_6, wE.eq_7, wE.eq_8, wE.eq_9, wE.eq_10, wE.eq_11, wE.eq_12, wE.eq_14, wEs, wDi, wBo, wT, wBt, wIfs, wI, itOf, Z.guard, opW, i2, addW, mulW, eqW_int, eqW_bl, eqW_str, newL_f, newL_t, List.length_nil, List.length_cons, truW, bindT, bindTs, Lit.d, Z.keyOf, isAbs, Z.part, seqOf, lstT, lstOf, List.getElem?_cons_zero, List.getElem?_cons_succ, List.set_cons_zero, List.set_cons_succ, Bool.false_xor, Bool.true_xor, lenW_lst, lenW_tup, idx_fst, idx_snd, put_same, put_put, sz0, sz1, sz2, sz3, sz4, sz5, sz6, sz7, sz8, true_and, and_true, implies_true, true_imp_iff, beq_true, beq_false, Bool.not_false, Bool.not_true]
  refine ⟨by omega, by omega, fun i e m => (∃ x1 x2 x3 x4 x5 x6 x7 x8 x9 x10, e = [some (.scr ns), some (.cell p), x1, x2, x3, x4, x5, x6, x7, x8, x9, x10]) ∧ ∃ a r, m p = some (penO cells a r), ⟨⟨_, _, _, _, _, _, _, _, _, _, rfl⟩, 0, 0, put_same⟩, ?_, ?_⟩
  · rintro i x e m hx ⟨⟨x1, x2, x3, x4, x5, x6, x7, x8, x9, x10, rfl⟩, a, r, hp⟩
    obtain ⟨hi, rfl⟩ := rangeL_get hx
    refine seq_abs fun K1 hK1 => ?_
    simp only [wS.eq_1, wS.eq_2, wS.eq_3, wS.eq_4, wS.eq_5, wS.eq_6, wS.eq_7, wS.eq_8, wS.eq_11, wE.eq_1, wE.eq_2, wE.eq_3, wE.eq_4, wE.eq_5, wE.eq_6, wE.eq_7, wE.eq_8, wE.eq_9, wE.eq_10, wE.eq_11, wE.eq_12, wE.eq_14, wEs, wDi, wBo, wT, wBt, wIfs, wI, itOf, Z.guard, opW, i2, addW, mulW, eqW_int, eqW_bl, eqW_str, newL_f, newL_t, List.length_nil, List.length_cons, truW, bindT, bindTs, Lit.d, Z.keyOf, isAbs, Z.part, seqOf, lstT, lstOf, List.getElem?_cons_zero, List.getElem?_cons_succ, List.set_cons_zero, List.set_cons_succ, Bool.false_xor, Bool.true_xor, lenW_lst, lenW_tup, idx_fst, idx_snd, put_same, put_put, sz0, sz1, sz2, sz3, sz4, sz5, sz6, sz7, sz8, true_and, and_true, implies_true, true_imp_iff, beq_true, beq_false, Bool.not_false, Bool.not_true]
    refine call_use (web_spec hp hc (by omega) (by omega)) (by omega) ?_
    rintro _ m1 ⟨n, ts, rfl, n1, n8, hw, hl, a1, r1, rfl⟩
    simp only [wS.eq_1, wS.eq_2, wS.eq_3, wS.eq_4, wS.eq_5, wS.eq_6, wS.eq_7, wS.eq_8, wS.eq_11, wE.eq_1, wE.eq_2, wE.eq_3, wE.eq_4, wE.eq_5, wE.eq_6, wE.eq_7, wE.eq_8, wE.eq_9, wE.eq_10, wE.eq_11, wE.eq_12, wE.eq_14, wEs, wDi, wBo, wT, wBt, wIfs, wI, itOf, Z.guard, opW, i2, addW, mulW, eqW_int, eqW_bl, eqW_str, newL_f, newL_t, List.length_nil, List.length_cons, truW, bindT, bindTs, Lit.d, Z.keyOf, isAbs, Z.part, seqOf, lstT, lstOf, List.getElem?_cons_zero, List.getElem?_cons_succ, List.set_cons_zero, List.set_cons_succ, Bool.false_xor, Bool.true_xor, lenW_lst, lenW_tup, idx_fst, idx_snd, put_same, put_put, sz0, sz1, sz2, sz3, sz4, sz5, sz6, sz7, sz8, true_and, and_true, implies_true, true_imp_iff, beq_true, beq_false, Bool.not_false, Bool.not_true]
    refine hK1 _ _ ?_
    clear hK1
    obtain ⟨n, rfl⟩ := Int.eq_ofNat_of_zero_le (by omega : 0 ≤ n)
    refine seq_abs fun K2 hK2 => ?_
    refine for_rule (callN_mono _) ?_
    simp only [wS.eq_1, wS.eq_2, wS.eq_3, wS.eq_4, wS.eq_5, wS.eq_6, wS.eq_7, wS.eq_8, wS.eq_11, wE.eq_1, wE.eq_2, wE.eq_3, wE.eq_4, wE.eq_5, wE.eq_6, wE.eq_7, wE.eq_8, wE.eq_9, wE.eq_10, wE.eq_11, wE.eq_12, wE.eq_14, wEs, wDi, wBo, wT, wBt, wIfs, wI, itOf, Z.guard, opW, i2, addW, mulW, eqW_int, eqW_bl, eqW_str, newL_f, newL_t, List.length_nil, List.length_cons, truW, bindT, bindTs, Lit.d, Z.keyOf, isAbs, Z.part, seqOf, lstT, lstOf, List.getElem?_cons_zero, List.getElem?_cons_succ, List.set_cons_zero, List.set_cons_succ, Bool.false_xor, Bool.true_xor, lenW_lst, lenW_tup, idx_fst, idx_snd, put_same, put_put, sz0, sz1, sz2, sz3, sz4, sz5, sz6, sz7, sz8, true_and, and_true, implies_true, true_imp_iff, beq_true, beq_false, Bool.not_false, Bool.not_true]
    have hm4 : (4 : Int) * (if decide ((1 : Int) < n) = true then 1 else 0) ≤ 4 ∧ 0 ≤ (4 : Int) * (if decide ((1 : Int) < n) = true then 1 else 0) := by split <;> omega
    refine ⟨.inl ⟨by decide, by decide⟩, by omega, by omega, fun j e m => (∃ x2 x5 x6 x7 x8 x9 x10, e = [some (.scr ns), some (.cell p), some (.int (0 + (i : Int))), x2, some (.int n), some (.tup (ts.map pr)), x5, x6, x7, x8, x9, x10]) ∧ ∃ a r, m p = some (penO cells a r), ⟨⟨_, _, _, _, _, _, _, rfl⟩, _, _, put_same⟩, ?_, ?_⟩
    · rintro j x e m hx ⟨⟨x2, x5, x6, x7, x8, x9, x10, rfl⟩, a, r, hp⟩
      obtain ⟨hj, rfl⟩ := rangeL_get hx
      have hn2 : 2 ≤ (n : Int) := by
        by_cases h1 : (1 : Int) < n
        · omega
        · simp [h1] at hj
      refine seq_abs fun K3 hK3 => ?_
      simp only [wS.eq_1, wS.eq_2, wS.eq_3, wS.eq_4, wS.eq_5, wS.eq_6, wS.eq_7, wS.eq_8, wS.eq_11, wE.eq_1, wE.eq_2, wE.eq_3, wE.eq_4, wE.eq_5, wE.eq_6, wE.eq_7, wE.eq_8, wE.eq_9, wE.eq_10, wE.eq_11, wE.eq_12, wE.eq_14, wEs, wDi, wBo, wT, wBt, wIfs, wI, itOf, Z.guard, opW, i2, addW, mulW, eqW_int, eqW_bl, eqW_str, newL_f, newL_t, List.length_nil, List.length_cons, truW, bindT, bindTs, Lit.d, Z.keyOf, isAbs, Z.part, seqOf, lstT, lstOf, List.getElem?_cons_zero, List.getElem?_cons_succ, List.set_cons_zero, List.set_cons_succ, Bool.false_xor, Bool.true_xor, lenW_lst, lenW_tup, idx_fst, idx_snd, put_same, put_put, sz0, sz1, sz2, sz3, sz4, sz5, sz6, sz7, sz8, true_and, and_true, implies_true, true_imp_iff, beq_true, beq_false, Bool.not_false, Bool.not_true]
      refine call_use (law_set_spec hp hc (by omega) (by omega)) (by omega) ?_
      rintro _ m2 ⟨s, rfl, hs, a2, r2, rfl⟩
      refine hK3 _ _ ?_
      clear hK3
      obtain ⟨s1, s2, s3, s4⟩ := id hs
      refine seq_abs fun K4 hK4 => ?_
      simp only [wS.eq_1, wS.eq_2, wS.eq_3, wS.eq_4, wS.eq_5, wS.eq_6, wS.eq_7, wS.eq_8, wS.eq_11, wE.eq_1, wE.eq_2, wE.eq_3, wE.eq_4, wE.eq_5, wE.eq_6, wE.eq_7, wE.eq_8, wE.eq_9, wE.eq_10, wE.eq_11, wE.eq_12, wE.eq_14, wEs, wDi, wBo, wT, wBt, wIfs, wI, itOf, Z.guard, opW, i2, addW, mulW, eqW_int, eqW_bl, eqW_str, newL_f, newL_t, List.length_nil, List.length_cons, truW, bindT, bindTs, Lit.d, Z.keyOf, isAbs, Z.part, seqOf, lstT, lstOf, List.getElem?_cons_zero, List.getElem?_cons_succ, List.set_cons_zero, List.set_cons_succ, Bool.false_xor, Bool.true_xor, lenW_lst, lenW_tup, idx_fst, idx_snd, put_same, put_put, sz0, sz1, sz2, sz3, sz4, sz5, sz6, sz7, sz8, true_and, and_true, implies_true, true_imp_iff, beq_true, beq_false, Bool.not_false, Bool.not_true]
      refine comp_map (fun k : Nat => D.int (0 + (k : Int))) (callN_mono _) ?_
      simp only [wS.eq_1, wS.eq_2, wS.eq_3, wS.eq_4, wS.eq_5, wS.eq_6, wS.eq_7, wS.eq_8, wS.eq_11, wE.eq_1, wE.eq_2, wE.eq_3, wE.eq_4, wE.eq_5, wE.eq_6, wE.eq_7, wE.eq_8, wE.eq_9, wE.eq_10, wE.eq_11, wE.eq_12, wE.eq_14, wEs, wDi, wBo, wT, wBt, wIfs, wI, itOf, Z.guard, opW, i2, addW, mulW, eqW_int, eqW_bl, eqW_str, newL_f, newL_t, List.length_nil, List.length_cons, truW, bindT, bindTs, Lit.d, Z.keyOf, isAbs, Z.part, seqOf, lstT, lstOf, List.getElem?_cons_zero, List.getElem?_cons_succ, List.set_cons_zero, List.set_cons_succ, Bool.false_xor, Bool.true_xor, lenW_lst, lenW_tup, idx_fst, idx_snd, put_same, put_put, sz0, sz1, sz2, sz3, sz4, sz5, sz6, sz7, sz8, true_and, and_true, implies_true, true_imp_iff, beq_true, beq_false, Bool.not_false, Bool.not_true]
      refine ⟨by omega, by omega, List.range n, fun k => !decide ((0 + (k : Int)) ∈ s), fun k => .int (0 + (k : Int)), by rw [Int.toNat_natCast]; rfl, by simp; omega, ?_, ?_⟩
      · intro k hk M2 _
        simp only [tgSlots, wipeD, wS.eq_1, wS.eq_2, wS.eq_3, wS.eq_4, wS.eq_5, wS.eq_6, wS.eq_7, wS.eq_8, wS.eq_11, wE.eq_1, wE.eq_2, wE.eq_3, wE.eq_4, wE.eq_5, wE.eq_6, wE.eq_7, wE.eq_8, wE.eq_9, wE.eq_10, wE.eq_11, wE.eq_12, wE.eq_14, wEs, wDi, wBo, wT, wBt, wIfs, wI, itOf, Z.guard, opW, i2, addW, mulW, eqW_int, eqW_bl, eqW_str, newL_f, newL_t, List.length_nil, List.length_cons, truW, bindT, bindTs, Lit.d, Z.keyOf, isAbs, Z.part, seqOf, lstT, lstOf, List.getElem?_cons_zero, List.getElem?_cons_succ, List.set_cons_zero, List.set_cons_succ, Bool.false_xor, Bool.true_xor, lenW_lst, lenW_tup, idx_fst, idx_snd, put_same, put_put, sz0, sz1, sz2, sz3, sz4, sz5, sz6, sz7, sz8, true_and, and_true, implies_true, true_imp_iff, beq_true, beq_false, Bool.not_false, Bool.not_true]
        refine in_ints (ns := s) (by rfl) ?_
        simp only [wS.eq_1, wS.eq_2, wS.eq_3, wS.eq_4, wS.eq_5, wS.eq_6, wS.eq_7, wS.eq_8, wS.eq_11, wE.eq_1, wE.eq_2, wE.eq_3, wE.eq_4, wE.eq_5, wE.eq_6, wE.eq_7, wE.eq_8, wE.eq_9, wE.eq_10, wE.eq_11, wE.eq_12, wE.eq_14, wEs, wDi, wBo, wT, wBt, wIfs, wI, itOf, Z.guard, opW, i2, addW, mulW, eqW_int, eqW_bl, eqW_str, newL_f, newL_t, List.length_nil, List.length_cons, truW, bindT, bindTs, Lit.d, Z.keyOf, isAbs, Z.part, seqOf, lstT, lstOf, List.getElem?_cons_zero, List.getElem?_cons_succ, List.set_cons_zero, List.set_cons_succ, Bool.false_xor, Bool.true_xor, lenW_lst, lenW_tup, idx_fst, idx_snd, put_same, put_put, sz0, sz1, sz2, sz3, sz4, sz5, sz6, sz7, sz8, true_and, and_true, implies_true, true_imp_iff, beq_true, beq_false, Bool.not_false, Bool.not_true]
      have eo : ((List.range n).filter fun (k : Nat) => !decide ((0 + (k : Int)) ∈ s)).map (fun (k : Nat) => D.int (0 + (k : Int))) = (others n s).map .int := by
        unfold others
        rw [List.map_map]
        rfl
      rw [eo]
      refine hK4 _ _ ?_
      clear hK4
      refine seq_abs fun K5 hK5 => ?_
      simp only [wS.eq_1, wS.eq_2, wS.eq_3, wS.eq_4, wS.eq_5, wS.eq_6, wS.eq_7, wS.eq_8, wS.eq_11, wE.eq_1, wE.eq_2, wE.eq_3, wE.eq_4, wE.eq_5, wE.eq_6, wE.eq_7, wE.eq_8, wE.eq_9, wE.eq_10, wE.eq_11, wE.eq_12, wE.eq_14, wEs, wDi, wBo, wT, wBt, wIfs, wI, itOf, Z.guard, opW, i2, addW, mulW, eqW_int, eqW_bl, eqW_str, newL_f, newL_t, List.length_nil, List.length_cons, truW, bindT, bindTs, Lit.d, Z.keyOf, isAbs, Z.part, seqOf, lstT, lstOf, List.getElem?_cons_zero, List.getElem?_cons_succ, List.set_cons_zero, List.set_cons_succ, Bool.false_xor, Bool.true_xor, lenW_lst, lenW_tup, idx_fst, idx_snd, put_same, put_put, sz0, sz1, sz2, sz3, sz4, sz5, sz6, sz7, sz8, true_and, and_true, implies_true, true_imp_iff, beq_true, beq_false, Bool.not_false, Bool.not_true]
      refine .inl ⟨_, rfl, by simp; omega, hK5 _ _ ?_⟩
      clear hK5
      refine seq_abs fun K6 hK6 => ?_
      simp only [wS.eq_1, wS.eq_2, wS.eq_3, wS.eq_4, wS.eq_5, wS.eq_6, wS.eq_7, wS.eq_8, wS.eq_11, wE.eq_1, wE.eq_2, wE.eq_3, wE.eq_4, wE.eq_5, wE.eq_6, wE.eq_7, wE.eq_8, wE.eq_9, wE.eq_10, wE.eq_11, wE.eq_12, wE.eq_14, wEs, wDi, wBo, wT, wBt, wIfs, wI, itOf, Z.guard, opW, i2, addW, mulW, eqW_int, eqW_bl, eqW_str, newL_f, newL_t, List.length_nil, List.length_cons, truW, bindT, bindTs, Lit.d, Z.keyOf, isAbs, Z.part, seqOf, lstT, lstOf, List.getElem?_cons_zero, List.getElem?_cons_succ, List.set_cons_zero, List.set_cons_succ, Bool.false_xor, Bool.true_xor, lenW_lst, lenW_tup, idx_fst, idx_snd, put_same, put_put, sz0, sz1, sz2, sz3, sz4, sz5, sz6, sz7, sz8, true_and, and_true, implies_true, true_imp_iff, beq_true, beq_false, Bool.not_false, Bool.not_true]
      refine call_use (law_leaving_spec hl) (by omega) ?_
      rintro _ m3 ⟨rfl, rfl⟩
      refine hK6 _ _ ?_
      clear hK6
      refine seq_abs fun K7 hK7 => ?_
      simp only [wS.eq_1, wS.eq_2, wS.eq_3, wS.eq_4, wS.eq_5, wS.eq_6, wS.eq_7, wS.eq_8, wS.eq_11, wE.eq_1, wE.eq_2, wE.eq_3, wE.eq_4, wE.eq_5, wE.eq_6, wE.eq_7, wE.eq_8, wE.eq_9, wE.eq_10, wE.eq_11, wE.eq_12, wE.eq_14, wEs, wDi, wBo, wT, wBt, wIfs, wI, itOf, Z.guard, opW, i2, addW, mulW, eqW_int, eqW_bl, eqW_str, newL_f, newL_t, List.length_nil, List.length_cons, truW, bindT, bindTs, Lit.d, Z.keyOf, isAbs, Z.part, seqOf, lstT, lstOf, List.getElem?_cons_zero, List.getElem?_cons_succ, List.set_cons_zero, List.set_cons_succ, Bool.false_xor, Bool.true_xor, lenW_lst, lenW_tup, idx_fst, idx_snd, put_same, put_put, sz0, sz1, sz2, sz3, sz4, sz5, sz6, sz7, sz8, true_and, and_true, implies_true, true_imp_iff, beq_true, beq_false, Bool.not_false, Bool.not_true]
      refine call_use (leaving_spec hl hs (by omega)) (by omega) ?_
      rintro _ m3 ⟨rfl, rfl⟩
      refine call_use whole_spec (by omega) ?_
      rintro _ m3 ⟨rfl, rfl⟩
      simp only [decide_true, wS.eq_1, wS.eq_2, wS.eq_3, wS.eq_4, wS.eq_5, wS.eq_6, wS.eq_7, wS.eq_8, wS.eq_11, wE.eq_1, wE.eq_2, wE.eq_3, wE.eq_4, wE.eq_5, wE.eq_6, wE.eq_7, wE.eq_8, wE.eq_9, wE.eq_10, wE.eq_11, wE.eq_12, wE.eq_14, wEs, wDi, wBo, wT, wBt, wIfs, wI, itOf, Z.guard, opW, i2, addW, mulW, eqW_int, eqW_bl, eqW_str, newL_f, newL_t, List.length_nil, List.length_cons, truW, bindT, bindTs, Lit.d, Z.keyOf, isAbs, Z.part, seqOf, lstT, lstOf, List.getElem?_cons_zero, List.getElem?_cons_succ, List.set_cons_zero, List.set_cons_succ, Bool.false_xor, Bool.true_xor, lenW_lst, lenW_tup, idx_fst, idx_snd, put_same, put_put, sz0, sz1, sz2, sz3, sz4, sz5, sz6, sz7, sz8, true_and, and_true, implies_true, true_imp_iff, beq_true, beq_false, Bool.not_false, Bool.not_true]
      refine call_use (leaving_spec hl (others_set hs) (by omega)) (by omega) ?_
      rintro _ m3 ⟨rfl, rfl⟩
      rw [cross_others hw]
      refine call_use whole_spec (by omega) ?_
      rintro _ m3 ⟨rfl, rfl⟩
      simp only [decide_true, wS.eq_1, wS.eq_2, wS.eq_3, wS.eq_4, wS.eq_5, wS.eq_6, wS.eq_7, wS.eq_8, wS.eq_11, wE.eq_1, wE.eq_2, wE.eq_3, wE.eq_4, wE.eq_5, wE.eq_6, wE.eq_7, wE.eq_8, wE.eq_9, wE.eq_10, wE.eq_11, wE.eq_12, wE.eq_14, wEs, wDi, wBo, wT, wBt, wIfs, wI, itOf, Z.guard, opW, i2, addW, mulW, eqW_int, eqW_bl, eqW_str, newL_f, newL_t, List.length_nil, List.length_cons, truW, bindT, bindTs, Lit.d, Z.keyOf, isAbs, Z.part, seqOf, lstT, lstOf, List.getElem?_cons_zero, List.getElem?_cons_succ, List.set_cons_zero, List.set_cons_succ, Bool.false_xor, Bool.true_xor, lenW_lst, lenW_tup, idx_fst, idx_snd, put_same, put_put, sz0, sz1, sz2, sz3, sz4, sz5, sz6, sz7, sz8, true_and, and_true, implies_true, true_imp_iff, beq_true, beq_false, Bool.not_false, Bool.not_true]
      refine seq_nil (hK7 _ _ ?_)
      clear hK7
      refine seq_abs fun K8 hK8 => ?_
      refine for_rule (callN_mono _) ?_
      simp only [wS.eq_1, wS.eq_2, wS.eq_3, wS.eq_4, wS.eq_5, wS.eq_6, wS.eq_7, wS.eq_8, wS.eq_11, wE.eq_1, wE.eq_2, wE.eq_3, wE.eq_4, wE.eq_5, wE.eq_6, wE.eq_7, wE.eq_8, wE.eq_9, wE.eq_10, wE.eq_11, wE.eq_12, wE.eq_14, wEs, wDi, wBo, wT, wBt, wIfs, wI, itOf, Z.guard, opW, i2, addW, mulW, eqW_int, eqW_bl, eqW_str, newL_f, newL_t, List.length_nil, List.length_cons, truW, bindT, bindTs, Lit.d, Z.keyOf, isAbs, Z.part, seqOf, lstT, lstOf, List.getElem?_cons_zero, List.getElem?_cons_succ, List.set_cons_zero, List.set_cons_succ, Bool.false_xor, Bool.true_xor, lenW_lst, lenW_tup, idx_fst, idx_snd, put_same, put_put, sz0, sz1, sz2, sz3, sz4, sz5, sz6, sz7, sz8, true_and, and_true, implies_true, true_imp_iff, beq_true, beq_false, Bool.not_false, Bool.not_true]
      refine ⟨fun l e m => (∃ x9, e = [some (.scr ns), some (.cell p), some (.int (0 + (i : Int))), some (.int (0 + (j : Int))), some (.int n), some (.tup (ts.map pr)), some (.lst (s.map .int)), some (.lst ((others n s).map .int)), some (.lst (s.map .int)), some (.int (cross (inS s) ts : Nat)), x9, x10]) ∧ ∃ a r, m p = some (penO cells a r), ⟨⟨_, rfl⟩, _, _, put_same⟩, ?_, ?_⟩
      · rintro l x e m hx ⟨⟨x9, rfl⟩, hp⟩
        have hf : ∃ f : Int, x = .int f := by
          match l, hx with
          | 0, hx => exact ⟨1, (Option.some.inj hx).symm⟩
          | 1, hx => exact ⟨2, (Option.some.inj hx).symm⟩
          | l + 2, hx => simp at hx
        obtain ⟨f, rfl⟩ := hf
        refine seq_abs fun K9 hK9 => ?_
        simp only [wS.eq_1, wS.eq_2, wS.eq_3, wS.eq_4, wS.eq_5, wS.eq_6, wS.eq_7, wS.eq_8, wS.eq_11, wE.eq_1, wE.eq_2, wE.eq_3, wE.eq_4, wE.eq_5, wE.eq_6, wE.eq_7, wE.eq_8, wE.eq_9, wE.eq_10, wE.eq_11, wE.eq_12, wE.eq_14, wEs, wDi, wBo, wT, wBt, wIfs, wI, itOf, Z.guard, opW, i2, addW, mulW, eqW_int, eqW_bl, eqW_str, newL_f, newL_t, List.length_nil, List.length_cons, truW, bindT, bindTs, Lit.d, Z.keyOf, isAbs, Z.part, seqOf, lstT, lstOf, List.getElem?_cons_zero, List.getElem?_cons_succ, List.set_cons_zero, List.set_cons_succ, Bool.false_xor, Bool.true_xor, lenW_lst, lenW_tup, idx_fst, idx_snd, put_same, put_put, sz0, sz1, sz2, sz3, sz4, sz5, sz6, sz7, sz8, true_and, and_true, implies_true, true_imp_iff, beq_true, beq_false, Bool.not_false, Bool.not_true]
        refine call_use (need_spec hl hs (by omega)) (by omega) ?_
        rintro _ m3 ⟨rfl, rfl⟩
        refine call_use whole_spec (by omega) ?_
        rintro _ m3 ⟨rfl, rfl⟩
        simp only [decide_true, wS.eq_1, wS.eq_2, wS.eq_3, wS.eq_4, wS.eq_5, wS.eq_6, wS.eq_7, wS.eq_8, wS.eq_11, wE.eq_1, wE.eq_2, wE.eq_3, wE.eq_4, wE.eq_5, wE.eq_6, wE.eq_7, wE.eq_8, wE.eq_9, wE.eq_10, wE.eq_11, wE.eq_12, wE.eq_14, wEs, wDi, wBo, wT, wBt, wIfs, wI, itOf, Z.guard, opW, i2, addW, mulW, eqW_int, eqW_bl, eqW_str, newL_f, newL_t, List.length_nil, List.length_cons, truW, bindT, bindTs, Lit.d, Z.keyOf, isAbs, Z.part, seqOf, lstT, lstOf, List.getElem?_cons_zero, List.getElem?_cons_succ, List.set_cons_zero, List.set_cons_succ, Bool.false_xor, Bool.true_xor, lenW_lst, lenW_tup, idx_fst, idx_snd, put_same, put_put, sz0, sz1, sz2, sz3, sz4, sz5, sz6, sz7, sz8, true_and, and_true, implies_true, true_imp_iff, beq_true, beq_false, Bool.not_false, Bool.not_true]
        exact seq_nil (hK9 _ _ (seq_nil ⟨⟨_, rfl⟩, hp⟩))
      · rintro e m ⟨⟨x9, rfl⟩, hp⟩
        refine hK8 _ _ ?_
        refine seq_abs fun K9 hK9 => ?_
        simp only [wS.eq_1, wS.eq_2, wS.eq_3, wS.eq_4, wS.eq_5, wS.eq_6, wS.eq_7, wS.eq_8, wS.eq_11, wE.eq_1, wE.eq_2, wE.eq_3, wE.eq_4, wE.eq_5, wE.eq_6, wE.eq_7, wE.eq_8, wE.eq_9, wE.eq_10, wE.eq_11, wE.eq_12, wE.eq_14, wEs, wDi, wBo, wT, wBt, wIfs, wI, itOf, Z.guard, opW, i2, addW, mulW, eqW_int, eqW_bl, eqW_str, newL_f, newL_t, List.length_nil, List.length_cons, truW, bindT, bindTs, Lit.d, Z.keyOf, isAbs, Z.part, seqOf, lstT, lstOf, List.getElem?_cons_zero, List.getElem?_cons_succ, List.set_cons_zero, List.set_cons_succ, Bool.false_xor, Bool.true_xor, lenW_lst, lenW_tup, idx_fst, idx_snd, put_same, put_put, sz0, sz1, sz2, sz3, sz4, sz5, sz6, sz7, sz8, true_and, and_true, implies_true, true_imp_iff, beq_true, beq_false, Bool.not_false, Bool.not_true]
        refine eqW_ints ?_
        have e : decide (s = s) = true := decide_eq_true rfl
        simp only [e, wS.eq_1, wS.eq_2, wS.eq_3, wS.eq_4, wS.eq_5, wS.eq_6, wS.eq_7, wS.eq_8, wS.eq_11, wE.eq_1, wE.eq_2, wE.eq_3, wE.eq_4, wE.eq_5, wE.eq_6, wE.eq_7, wE.eq_8, wE.eq_9, wE.eq_10, wE.eq_11, wE.eq_12, wE.eq_14, wEs, wDi, wBo, wT, wBt, wIfs, wI, itOf, Z.guard, opW, i2, addW, mulW, eqW_int, eqW_bl, eqW_str, newL_f, newL_t, List.length_nil, List.length_cons, truW, bindT, bindTs, Lit.d, Z.keyOf, isAbs, Z.part, seqOf, lstT, lstOf, List.getElem?_cons_zero, List.getElem?_cons_succ, List.set_cons_zero, List.set_cons_succ, Bool.false_xor, Bool.true_xor, lenW_lst, lenW_tup, idx_fst, idx_snd, put_same, put_put, sz0, sz1, sz2, sz3, sz4, sz5, sz6, sz7, sz8, true_and, and_true, implies_true, true_imp_iff, beq_true, beq_false, Bool.not_false, Bool.not_true]
        exact seq_nil (hK9 _ _ (seq_nil ⟨⟨_, _, _, _, _, _, _, rfl⟩, hp⟩))
    · rintro e m ⟨⟨x2, x5, x6, x7, x8, x9, x10, rfl⟩, hp⟩
      exact hK2 _ _ (seq_nil ⟨⟨_, _, _, _, _, _, _, _, _, _, rfl⟩, hp⟩)
  · rintro e m ⟨⟨x1, x2, x3, x4, x5, x6, x7, x8, x9, x10, rfl⟩, hp⟩
    refine hK _ _ ?_
    refine seq_abs fun K hK => ?_
    simp only [wS.eq_1, wS.eq_2, wS.eq_3, wS.eq_4, wS.eq_5, wS.eq_6, wS.eq_7, wS.eq_8, wS.eq_11, wE.eq_1, wE.eq_2, wE.eq_3, wE.eq_4, wE.eq_5, wE.eq_6, wE.eq_7, wE.eq_8, wE.eq_9, wE.eq_10, wE.eq_11, wE.eq_12, wE.eq_14, wEs, wDi, wBo, wT, wBt, wIfs, wI, itOf, Z.guard, opW, i2, addW, mulW, eqW_int, eqW_bl, eqW_str, newL_f, newL_t, List.length_nil, List.length_cons, truW, bindT, bindTs, Lit.d, Z.keyOf, isAbs, Z.part, seqOf, lstT, lstOf, List.getElem?_cons_zero, List.getElem?_cons_succ, List.set_cons_zero, List.set_cons_succ, Bool.false_xor, Bool.true_xor, lenW_lst, lenW_tup, idx_fst, idx_snd, put_same, put_put, sz0, sz1, sz2, sz3, sz4, sz5, sz6, sz7, sz8, true_and, and_true, implies_true, true_imp_iff, beq_true, beq_false, Bool.not_false, Bool.not_true]
    exact ⟨_, _, .refl _, .same _, rfl⟩
end KL

set_option Elab.async false
set_option linter.all false
set_option maxRecDepth 100000
set_option maxHeartbeats 0
namespace KL
open PySem PySem.Spec PyProof.Rows L2 Z
/-! ### the head: facts by names, the run -/
def dds : List He.DefD := rows.map Z.Row.dd
def fa : List He.Fa := [.glo "is_whole", .glo "is_place", .glo "is_set", .glo "need_set", .glo "leaving_by", .glo "need_by", .glo "leaving", .glo "need", .glo "_law_pen", .glo "_law_draw", .glo "_law_order", .glo "_law_ties", .glo "_law_web", .glo "_law_leaving", .glo "_law_set", .glo "_law_whole", .glo "law", .free "all", .free "bool", .free "int", .free "isinstance", .free "len", .free "list", .free "max", .free "min", .free "range", .free "set", .free "sorted", .free "tuple"]
def loose0 : List Str := ["FallError", "NoSet", "is_whole", "is_place", "is_set", "need_set", "leaving_by", "need_by", "leaving", "need", "_law_pen", "_law_draw", "_law_order", "_law_ties", "_law_web", "_law_leaving", "_law_set", "_law_whole"]
def loose : List Str := loose0
abbrev RR : PySem.W.OpenRow := PySem.W.OpenLaw.row PySem.Challenge.rw_nofall_k21_ties_that_leave
abbrev hk : PySem.W.Hook := He.hookD 4 fa dds
def ob (s : PySem.W.SharedT) : He.AlD := He.obsDG 4 fa dds (HandSHeadRun.getT s)
theorem ob_eq (s : PySem.W.SharedT) : ob s = hk.obs s.abs := He.obsDG_eq (HandSHeadRun.getT_eq s)
theorem run (w : World) : HandSHeadRun.RunEq RR (PySem.W.view RR.prog [22]) hk ob 20000 loose w := by
  intro os
  kernel_rfl
theorem fa_gloB : (rows.all fun r => fa.any fun f => match f with
    | .glo x => decide (x = r.f)
    | _ => false) = true := by decide +kernel
theorem fa_freeB : (free.all fun r => fa.any fun f => match f with
    | .free x => decide (x = r)
    | _ => false) = true := by decide +kernel
theorem fa_glo : ∀ r ∈ rows, He.Fa.glo r.f ∈ fa := fun r hr => by
  obtain ⟨a, ha, h⟩ := List.any_eq_true.mp (List.all_eq_true.mp fa_gloB r hr)
  cases a <;> simp at h
  rw [← h]; exact ha
theorem fa_free : ∀ x ∈ free, He.Fa.free x ∈ fa := fun r hr => by
  obtain ⟨a, ha, h⟩ := List.any_eq_true.mp (List.all_eq_true.mp fa_freeB r hr)
  cases a <;> simp at h
  rw [← h]; exact ha
theorem facts {P : Program} {w : World} {K : PySem.W.Frag} {h : Heap} {mg : Str → Option Value} {f : Addr} (X : K.In h) (G : h.Ns mainGlobals mg) (hfa : mg ("law" : Str) = some (.ref f)) (c : He.SaysD fa dds K) (n : Nat) :
    ∃ fd : FuncData, (∀ (s : Shared) (v : Value), BindsTo s fd ⟨[v], []⟩ [("_law_script", v)]) ∧ ∀ base : Heap, K.In base → base.Ns mainGlobals mg → FnOk P w K mg base (CXe P) n f fd ["_law_script"] (spC K (callN T GG n) "law") :=
  Z.facts (R := rows) (gls := gls) (free := free) (r := mkRow "law" d_law 22) X G hfa c chk lkT fa_glo fa_free (by decide +kernel) (by simp [rows]) rfl rfl n
end KL
open PySem PySem.W PySem.Calls PyProof.Rows
theorem PySem.Challenge.cw_nofall_k21_ties_that_leave_holds : PySem.Challenge.rw_nofall_k21_ties_that_leave.Holds := by
  w_on; o_law
  refine HandSHeadRun.head_any (r := OpenLaw.row PySem.Challenge.rw_nofall_k21_ties_that_leave) (q := view (OpenLaw.row PySem.Challenge.rw_nofall_k21_ties_that_leave).prog [22]) (H := KL.hk) (ob := KL.ob) (M := 20000) (loose := KL.loose) (d := HandSHeadRun.topDef (OpenLaw.row PySem.Challenge.rw_nofall_k21_ties_that_leave).prog 22) (kwd := []) KL.ob_eq
    (by kernel_rfl) (fun s => by kernel_rfl) KL.run (by kernel_rfl) (by kernel_rfl) (by kernel_rfl) (by rfl) (by first | assumption | decide +kernel) (by decide +kernel) ⟨rfl, rfl, rfl, rfl, rfl, by decide +kernel⟩ ?hw ?hc
  case hw => w_witness2
  case hc =>
    refine L2.walk_ofE (l := PySem.Challenge.rw_nofall_k21_ties_that_leave) (n := 63) (k := 200) (x := "_law_script") (CX := Z.CXe (PySem.Challenge.rw_nofall_k21_ties_that_leave).prog) rfl (by decide) (by kernel_rfl) ⟨rfl, by decide, by decide⟩ ?F ?cx
    · intro w mg fa h Y G hmg0
      obtain ⟨K, KX, c⟩ := Y
      have hmg : mg ("law" : PySem.Str) = some (.ref fa) := by
        have e : (HandSHeadRun.topDef (OpenLaw.row PySem.Challenge.rw_nofall_k21_ties_that_leave).prog 22).name = ("law" : PySem.Str) := by kernel_rfl
        rw [← e]
        exact hmg0
      obtain ⟨fd, hb, hF⟩ := KL.facts (P := (PySem.Challenge.rw_nofall_k21_ties_that_leave).prog) (w := w) KX G hmg c 200
      exact ⟨K, fd, _, KX, hb, fun H a ns hl _ hS => Z.law_sp (KL.law_spec ns hl) hS, hF⟩
    · exact fun H s e s' => Z.cxe_no _ H s e s'

