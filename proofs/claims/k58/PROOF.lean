import PyProof.Rows.All
import Wide.All
import OpenK.AllK
import Wide.FinOn
import HandS.ForMost
import HandS.TupAny
import HandS.Strs
import HandS.SetFor
import HandS.Conv
import HandS.More
import HandS.Evl
import KE.GoesEnum
import KE.KDictDisplayH
import KE.KeyNested
import PySem.Challenge.RW_anyvalues_k58_whole_needed_values_are_en
import HandS.SetBool
set_option Elab.async false
set_option linter.all false
set_option maxRecDepth 100000
set_option maxHeartbeats 2000000
/-! Rules of our own: enumerate of a tuple. -/
namespace K58
open PySem PySem.Spec PyProof.Rows L2

/-! ### enumerate(tuple) -/
def IteT (K : PySem.W.Frag) (a : Addr) : It :=
  ⟨fun i H => ∃ (xs : List V) (x : V), SqT K H a xs ∧ xs[i]? = some x,
   fun i H v H' => ∃ T x, v = .ref T ∧ H T = none ∧ H' = upd H T (.tup [.int (i : Nat), x]) ∧ ∀ xs, SqT K H a xs → xs[i]? = some x,
   fun i H => ∃ xs : List V, SqT K H a xs ∧ xs.length ≤ i⟩

theorem enum_apart {h : Heap} {e it a : Addr} {k : Int} {old : Value} {items : Array Value} {i : Nat} (he : IsEnum h e it k old) (hi : h.IsTupleIter it a i) (ht : h.IsTuple a items) : e ≠ a ∧ a ≠ it := by
  obtain ⟨o, ho, hc, _⟩ := ht
  obtain ⟨o2, ho2, hc2, _⟩ := hi
  have he' : h.get? e = some _ := he
  constructor
  · intro z
    rw [z, ho] at he'
    have q := Option.some.inj he'
    rw [q] at hc
    exact absurd (Value.type.inj hc) (by decide)
  · intro z
    rw [← z, ho] at ho2
    cases ho2
    rw [hc] at hc2
    exact absurd (Value.type.inj hc2) (by decide)

theorem turn_enumT {P : Program} {w : World} {K : PySem.W.Frag} {elts : List Expr} {kk : Nat} {tpos : Pos} (a e it : Addr) :
    Turn P w K (.Tuple elts kk tpos) (IteT K a) [e, it] e (fun i h => (∃ old, IsEnum h e it ((i : Nat) : Int) old) ∧ h.IsTupleIter it a i ∧ e ≠ it) where
  mem := List.mem_cons_self
  obj := fun i h st b hb => by
    obtain ⟨⟨old, he⟩, ⟨o, ho, _, hd⟩, _⟩ := st
    rcases List.mem_cons.mp hb with z | z
    · subst z
      exact ⟨_, he, fun v q => nomatch q⟩
    · obtain rfl := List.mem_singleton.mp z
      refine ⟨o, ho, fun v q => ?_⟩
      rw [hd] at q
      cases q
  keep := fun i h h' st k => by
    obtain ⟨⟨old, he⟩, hi, hne⟩ := st
    exact ⟨⟨old, k e List.mem_cons_self _ he⟩, hi.at fun o q => k it (List.mem_cons_of_mem _ List.mem_cons_self) o q, hne⟩
  item := by
    intro X hP hw hK hc i pins s σ H E I hf st hg
    subst hP hw hK
    obtain ⟨⟨old, he⟩, hit, hne⟩ := st
    obtain ⟨xs, x, hq, hx⟩ := hg
    obtain ⟨its, rv, p, hz⟩ := I.tuple hq
    obtain ⟨u, hu, ru⟩ := rv.get hx
    have hel : e < s.heap.objs.size := Heap.lt_size he
    have hil : it < s.heap.objs.size := by
      obtain ⟨_, q, _⟩ := hit
      exact Heap.lt_size q
    have ap := enum_apart he hit p
    have hin : e ∉ [it, a] := fun hm => by
      rcases List.mem_cons.mp hm with z | z
      · exact hne z
      · exact ap.1 (List.mem_singleton.mp z)
    have hlt : i < its.toArray.size := by
      rw [List.size_toArray]
      exact (List.getElem?_eq_some_iff.mp hu).1
    have hh : X.A.in1.handled = none := by simp [I.ok.hd hc]
    refine wpAny_pyNext_enum_itemD (Draws.tuple hh it a ap.2 its.toArray) he ⟨hit, p⟩ hlt hne hin fun y h' tk hy ho hst' hT hsz hk => ?_
    obtain rfl : y = u := by
      have q : its.toArray[i]? = some u := by simpa using hu
      have q2 : its.toArray[i]? = some y := hy
      rw [q] at q2
      exact (Option.some.inj q2).symm
    refine ⟨_, rfl, wpAny_letOwnedTupleGo_enum (s := { s with heap := h', toks := tk + 1 }) ho fun h2 he2 sb => ?_⟩
    have hT2 : h2.get? s.heap.objs.size = some { cls := .type "tuple", data := .seq #[.int i tk, y] } := (sb.2 _ (Nat.ne_of_gt hel)).trans hT
    have fresh : ObjOk X.prog X.w (upd H s.heap.objs.size (.tup [.int (i : Nat), x])) h2 s.heap.objs.size (.tup [.int (i : Nat), x]) := by
      refine ⟨by show 2 ≤ sizeLine; decide, [.int i tk, y], .cons ⟨_, rfl⟩ (.cons ru .nil), ⟨_, hT2, rfl, _, rfl⟩⟩
    have I1 : Inv X pins σ (upd H s.heap.objs.size (.tup [.int (i : Nat), x])) { s with heap := h2, toks := tk + 1 } := by
      refine I.turnedNew (ch := [e, it]) (fun b ob hb q => ?_) hf (Nat.le_refl _) fresh
      have b1 : b ≠ e := fun z => hb (by rw [z]; exact List.mem_cons_self)
      have b2 : b ≠ it := fun z => hb (by rw [z]; exact List.mem_cons_of_mem _ List.mem_cons_self)
      exact (sb.2 b b1).trans (hk b ob b1 b2 q)
    refine ⟨.ref s.heap.objs.size, _, I1, rfl, ⟨_, x, rfl, I.hok.fresh (Nat.le_refl _), rfl, fun ys hy => by rw [I.tuple_inj hy hq]; exact hx⟩, ⟨⟨y, ?_⟩, hst'.1.at fun o q => (sb.2 it (Ne.symm hne)).trans q, hne⟩, fun b hb => ?_⟩
    · have e1 : ((i + 1 : Nat) : Int) = (i : Int) + 1 := by omega
      rw [e1]
      exact he2
    · have hb' : b < s.heap.objs.size := by
        rcases List.mem_cons.mp hb with z | z
        · rw [z]; exact hel
        · rw [List.mem_singleton.mp z]; exact hil
      rw [upd_ne (Nat.ne_of_lt hb')]
      exact (hf b hb).1
  done := by
    intro X hP hw hK hc i pins s σ H E I hf st hg
    subst hP hw hK
    obtain ⟨⟨old, he⟩, hit, hne⟩ := st
    obtain ⟨xs, hq, hx⟩ := hg
    obtain ⟨its, rv, p, hz⟩ := I.tuple hq
    obtain ⟨f0, f1, f2, f3, f4, f5⟩ := hf it (List.mem_cons_of_mem _ List.mem_cons_self)
    have hl := rv.length
    have ap := enum_apart he hit p
    have hh : X.A.in1.handled = none := by simp [I.ok.hd hc]
    have T : Heap.IsTuple s.heap a its.toArray := p
    have hT : s.TypeIs (.ref e) "enumerate" := ⟨_, he, rfl⟩
    unfold pyNext
    refine wpAny_bind (wpAny_attempt (wpAny_callSpecial?_slot (name := Str.ofString "__next__") hT F.slot_enumerate_next
      (wpAny_call_entry F.slot_enumerate_next hT F.entry_enumerate_next ?_ (F.args_enumerate_next_1 _))))
    show wpAny _ _ (field (.ref e) 2 >>= _) _ _ _
    refine wpAny_bind (wpAny_field he rfl (x := .ref it) rfl ?_)
    refine wpAny_bind (wpAny_nextOf_tuple_end hh hit T (Array.getElem?_eq_none (by rw [List.size_toArray]; omega)) fun h' x he' hx' => ?_)
    obtain ⟨o, ho, hc'⟩ := hx'
    refine wpAny_bind (wpAny_isInstance (T := "StopIteration") (b := true) ⟨o, ho, hc'⟩ isSubtype_stop ?_)
    exact wpAny_pure ⟨rfl, I.turned (t' := s.toks) (fun b o hb q => he' b o hb q) f0 f1 f3 f4 f5⟩
  self := fun A i s Q E st h => by
    obtain ⟨⟨_, he⟩, _⟩ := st
    exact wpAny_pyIter_enum he h

/-- enumerate(t): its two new records -/
theorem meets_enumT (l : Addr) (items : Array Value) :
    Meets (Builtin.«enumerate.__new__» ⟨[.type "enumerate", .ref l], []⟩) (fun _ R s => s.heap.IsTuple l items ∧
      R (.ok (.ret (.ref (s.heap.push { cls := .type "tuple_iterator", data := .fields #[.ref l, .int 0 0] }).objs.size)))
        { s with heap := (s.heap.push { cls := .type "tuple_iterator", data := .fields #[.ref l, .int 0 0] }).push { cls := .type "enumerate", data := .fields #[.none, .bool false, .ref s.heap.objs.size, rawInt 0, .none, .none] } }) :=
  .of_wp fun prog w A R s h => by
    obtain ⟨hp, g, d, tk, os⟩ := s
    obtain ⟨hT, h⟩ := h
    have hsub := sub_enumerate
    have q1 : ∀ {A' : Around} {E : Value → Shared → Prop} {Q : Value → Shared → Prop}, Q (.ref hp.objs.size) ⟨hp.push { cls := .type "tuple_iterator", data := .fields #[.ref l, .int 0 0] }, g, d, tk, os⟩ → wpAny (model prog w) A' (pyIter (.ref l)) Q E ⟨hp, g, d, tk, os⟩ :=
      fun q => (begins_tuple l items).iter prog w _ _ ⟨hp, g, d, tk, os⟩ _ hT q
    wp_walk using q1
    refine wpAny_stack_any fun st => wpAny_pure ?_
    split
    · rename_i c _ _ _ _ _
      cases (c == Value.type "enumerate")
      · wp_walk using q1
        exact ⟨_, rfl, h⟩
      · wp_walk using q1
        exact ⟨_, rfl, h⟩
    · wp_walk using q1
      exact ⟨_, rfl, h⟩
def iEnumT (K : PySem.W.Frag) (ta : TA) : TI := fun σ H R => ta σ H fun vs H1 => ∃ a xs, vs = [.ref a] ∧ SqT K H1 a xs ∧ R (IteT K a) H1
theorem pi_enumT {X : Cx} {e : Expr} {ta : TA} {p pos tpos : Pos} {elts : List Expr} {kk : Nat} (hg : Gl X "enumerate") (hm : X.mg "enumerate" = none) (ha : PA X [e] ta) (hs : starEach [e] X.env = [(false, eval e X.env)] := by rfl) :
    PI X (.Tuple elts kk tpos) (.Call (.Name "enumerate" p) [e] [] pos) (iEnumT X.K ta) := by
  refine ⟨fun pins s σ H R I h => ?_⟩
  refine Call_ (ld_blt I hg hm boot_enumerate (PyProof.Rows.callWith_type1 (thn (ha.run pos pins s σ H _ I h) fun us s1 ⟨vs, H1, I1, r1, q1⟩ => ?_) hs rfl))
  obtain ⟨a, xs, ex, hq, q⟩ := q1
  subst ex
  obtain rfl := Vals.ref1 r1
  obtain ⟨its, rv, p', hz⟩ := I1.tuple hq
  refine callType_new F.called_enumerate (by decide) (F.typeCall_enumerate_1 _) (F.newCall_enumerate_1 _) (fun obj => F.args_object_init_2 obj _) F.entry_enumerate_new
    (meets_enumT a its.toArray) ⟨p', ?_⟩
  generalize ho1 : ({ cls := .type "tuple_iterator", data := .fields #[.ref a, .int 0 0] } : Obj) = o1
  have hz1 : (s1.heap.push o1).objs.size = s1.heap.objs.size + 1 := Heap.size_push ..
  show _ ∧ _
  rw [hz1]
  generalize ho2 : ({ cls := .type "enumerate", data := .fields #[.none, .bool false, .ref s1.heap.objs.size, rawInt 0, .none, .none] } : Obj) = o2
  have he : ((s1.heap.push o1).push o2).get? (s1.heap.objs.size + 1) = some o2 := by
    have q := Heap.get?_push_size (s1.heap.push o1) (o := o2) (by rw [← ho2]; rfl)
    rw [hz1] at q
    exact q
  have hit : ((s1.heap.push o1).push o2).get? s1.heap.objs.size = some o1 := Heap.get?_push_of_some _ (Heap.get?_push_size _ (by rw [← ho1]; rfl))
  have he' : IsEnum ((s1.heap.push o1).push o2) (s1.heap.objs.size + 1) s1.heap.objs.size ((0 : Nat) : Int) .none := by
    rw [← ho2] at he ⊢
    exact he
  refine ⟨⟨o2, he, by rw [← ho2]⟩, wpAny_pyIter_enum he' ?_⟩
  have I2 : Inv X pins σ H1 { s1 with heap := (s1.heap.push o1).push o2 } := I1.kept (t' := s1.toks) fun b o e => Heap.get?_push_of_some _ (Heap.get?_push_of_some _ e)
  refine ⟨s1.heap.objs.size + 1, [s1.heap.objs.size + 1, s1.heap.objs.size], _, _, H1, rfl, I2, turn_enumT a (s1.heap.objs.size + 1) s1.heap.objs.size, ⟨⟨.none, he'⟩, ⟨o1, hit, by rw [← ho1], by rw [← ho1]; rfl⟩, Nat.succ_ne_self _⟩, fun b hb => ?_, q⟩
  have hle : s1.heap.objs.size ≤ b := by
    rcases List.mem_cons.mp hb with z | z
    · rw [z]; exact Nat.le_add_right _ _
    · rw [List.mem_singleton.mp z]; exact Nat.le_refl _
  exact I1.fpOk hle (I1.hok.fresh hle)
end K58
/-! Rules of our own: set(list of ints), len of it, set comprehensions of ints. -/
namespace K58
open PySem PySem.Spec PyProof.Rows L2

abbrev emptySet (w : World) : Obj := { cls := .type "set", dict := none, data := .set #[] 0 (.fresh 0 0 (!w.params.followText "set-order")) }

section
variable {P : Program} {w : World} {A : Around} {E : Value → Shared → Prop} {s : Shared}
/-- set(xs), xs a list of ints -/
theorem call_set_lst {l : Addr} {vals : Array Value} (ks : List Int) {Q : Value → Shared → Prop} (hh : A.handled = none) (hl : s.heap.IsList l vals) (hit : IntsAre vals.toList ks) (hb : ks.length + 1 < scanBound)
    (go : ∀ (h2 : Heap) (t2 c : Nat), SetR w h2 s.heap.objs.size (fun j => decide (j ∈ ks)) c → c ≤ ks.length → (∀ b o, s.heap.get? b = some o → h2.get? b = some o) → Q (.ref s.heap.objs.size) { s with heap := h2, toks := t2 }) :
    wpAny (model P w) A (call (.type "set") [.ref l]) Q E s := by
  have hsize : vals.size = ks.length := by
    have q := IntsAre.length hit
    rw [Array.length_toList] at q
    exact q
  obtain ⟨c, tl, hmro⟩ := F.called_set.mro
  have hmade := F.called_set.made
  have hsub := F.called_set.sub
  refine wpAny_call (codeAny_of_tree ?_)
  show wpAny _ _ (callAny (.type "set") _) _ _ _
  refine wpAny_pure ⟨Code.quiet_builtin _ (by decide +kernel), codeAny_builtin F.entry_type_call ?_⟩
  rw [Around.under_plain (weight_type_call_type "set" [.ref l] []) rfl]
  have h1 := F.called_set.notType
  have h2 := F.called_set.canCreate
  have hct := F.typeCall_set_1 (.ref l)
  repeat (any_goals (first | assumption | wp_step))
  refine codeAny_mono (code_set_led1 (.ref l) (E := E) (Q₁ := fun obj s₁ => obj = .ref s.heap.objs.size ∧ s₁ = { s with heap := s.heap.push (emptySet w) }) ⟨rfl, rfl⟩) fun r s₁ hr => ?_
  cases r with
  | error e => exact hr
  | ok fl =>
    cases fl with
    | ret obj =>
      obtain ⟨rfl, rfl⟩ := hr
      have hS : (s.heap.push (emptySet w)).get? s.heap.objs.size = some (emptySet w) := Heap.get?_push_size _ rfl
      have hT : Shared.TypeIs { s with heap := s.heap.push (emptySet w) } (.ref s.heap.objs.size) "set" := ⟨_, hS, rfl⟩
      have hli := F.called_set.init.lookup
      have hbi := F.called_set.init.bind (.ref s.heap.objs.size)
      repeat (any_goals (first | assumption | wp_step))
      refine codeAny_mono (codeAny_call_builtin (R := wants (fun r s₂ => r = .none ∧ ∃ h2 t2 c, s₂ = { s with heap := h2, toks := t2 } ∧ SetR w h2 s.heap.objs.size (fun j => decide (j ∈ ks)) c ∧ c ≤ ks.length ∧
          (∀ b o, s.heap.get? b = some o → h2.get? b = some o)) E) F.called_set.init.plain F.entry_set_init (check_set_init_1 hT ?_)) fun r₂ s₂ hr₂ => ?_
      · obtain ⟨ol, hol, hcl, nl, hdl⟩ := hl
        obtain ⟨ocls, odict, odata, oslots⟩ := ol
        simp only at hcl hdl
        subst hcl; subst hdl
        have hol' : (s.heap.push (emptySet w)).get? l = some { cls := .type "list", dict := odict, data := .seq vals nl, slots := oslots } := Heap.get?_push_of_some _ hol
        have hsls := F.sub_list_set
        have hslf := F.sub_list_frozenset
        have hne : (Value.type "list" == Value.type "dict") = false := by decide
        have hl1 : (s.heap.push (emptySet w)).IsList l vals := ⟨_, hol', rfl, nl, rfl⟩
        unfold Builtin.«set.__init__» noKeywords Builtin.Frozenset.updateFrom
        generalize hPI : pyIter = PI
        wp_walk
        subst hPI
        refine wpAny_pyIter_list hl1 ?_
        refine wpAny_bind (wpAny_runValue ?_)
        have hlS : l < s.heap.objs.size := Heap.lt_size hol
        have hh3 : A.in1.in1.in1.handled = none := by simp [hh]
        have hz : (s.heap.push (emptySet w)).objs.size = s.heap.objs.size + 1 := Heap.size_push ..
        have hneI : l ≠ (s.heap.push (emptySet w)).objs.size := by
          rw [hz]; exact Nat.ne_of_lt (Nat.lt_succ_of_lt hlS)
        have hSf : s.heap.objs.size ∉ [(s.heap.push (emptySet w)).objs.size, l] := by
          rw [hz]; simp only [List.mem_cons, List.mem_singleton, List.not_mem_nil, or_false, not_or]
          exact ⟨Nat.ne_of_lt (Nat.lt_succ_self _), Nat.ne_of_gt hlS⟩
        have hval : ∀ (i : Nat) (v : Value), vals[i]? = some v → ∃ k t, ks[i]? = some k ∧ v = .int k t := fun i v hv => by
          have hi : i < ks.length := by rw [← hsize]; exact (Array.getElem?_eq_some_iff.mp hv).1
          obtain ⟨t, e⟩ := PyProof.Rows.IntsAre.int_at hit i v (by rw [Array.getElem?_toList]; exact hv)
          refine ⟨ks[i], t, List.getElem?_eq_getElem hi, ?_⟩
          rw [e, List.getD_eq_getElem?_getD, List.getElem?_eq_getElem hi] <;> rfl
        refine set_update_ints ((Walks.list hh3 _ l hneI vals).toS) s.heap.objs.size hSf ks hsize hb hval (vals.size - 0) 0 _ (by omega) (Nat.zero_le _)
          ⟨⟨_, Heap.get?_push_size _ rfl, rfl, rfl⟩, (hl1.push _)⟩ ?hS0 ?hR
        case hS0 => exact ⟨0, Nat.le_refl 0, setR_new_at (Heap.get?_push_of_some _ hS)⟩
        case hR =>
          intro s' c' hm hc' hS'
          obtain ⟨h', g2, d', tk', os'⟩ := s'
          have eg : g2 = s.gens := hm.gens
          have ed : d' = s.drawn := hm.drawn
          have eo : os' = s.os := hm.os
          subst eg; subst ed; subst eo
          show wpAny _ _ _ _ _ _
          refine wpAny_pure ?_
          show wpAny _ _ (ret Value.none) _ _ _
          rw [hsize] at hc'
          refine wpAny_pure ⟨rfl, h', tk', c', rfl, hS', hc', fun b o e => ?_⟩
          have hb0 : b < s.heap.objs.size := Heap.lt_size e
          have hb2 : b ≠ (s.heap.push (emptySet w)).objs.size := by
            rw [hz]; exact Nat.ne_of_lt (Nat.lt_succ_of_lt hb0)
          exact hm.heap b o (by simp only [List.mem_cons, List.mem_singleton, List.not_mem_nil, or_false, not_or]; exact ⟨Nat.ne_of_lt hb0, hb2⟩) (Heap.get?_push_of_some _ (Heap.get?_push_of_some _ e))
      · cases r₂ with
        | error e => exact hr₂
        | ok fl₂ =>
          cases fl₂ with
          | ret r =>
            obtain ⟨rfl, h2, t2, c', rfl, hS', hc', hk'⟩ := hr₂
            repeat (any_goals (first | assumption | wp_step))
            exact go _ _ _ hS' hc' hk'
          | _ => exact hr₂.elim
    | _ => exact hr.elim

/-- a set of ints has as many members as it tells -/
theorem SetR.count {h : Heap} {a : Addr} {S : Int → Bool} {n : Nat} (R : SetR w h a S n) : ∃ ks : List Int, ks.Nodup ∧ ks.length = n ∧ ∀ k, k ∈ ks ↔ S k = true := by
  obtain ⟨o, es, ep, t, _, _, _, _, nd, hm, _, _, hn, _⟩ := R
  refine ⟨es.toList.map keyOf, nd, ?_, fun k => (hm k).symm⟩
  rw [List.length_map, Array.length_toList, hn]
end

section
variable {X : Cx}
def rSetL1 (K : PySem.W.Frag) (w : World) : List V → Hp → VK → Prop := fun xs H Q => ∃ (l : Addr) (ks : List Int), xs = [.ref l] ∧ SqL K H l (ks.map V.int) ∧ ks.length ≤ 1000 ∧
  ∀ p c, H p = none → c ≤ ks.length → Q (.ref p) (upd H p (SetO w p (fun j => decide (j ∈ ks)) c))
theorem call_setL (hc : X.calm = true) : CallR X (.type "set") (rSetL1 X.K X.w) := by
  intro pins s σ H xs us Q I r h
  obtain ⟨l, ks, rfl, hq, hb, q⟩ := h
  obtain rfl := Vals.ref1 r
  obtain ⟨its, rv, pl, hz⟩ := I.list hq
  refine call_set_lst ks (I.ok.hd hc) pl.isList (by simpa using intsAre_of rv) (by unfold scanBound; omega) fun h2 t2 c hS hcl hk => ?_
  exact ⟨.ref _, upd H s.heap.objs.size (SetO X.w s.heap.objs.size (fun j => decide (j ∈ ks)) c), I.laid (t' := t2) hk (Nat.le_refl _) (setO_new hS), rfl, q _ c (I.hok.fresh (Nat.le_refl _)) hcl⟩
/-- len of a set of ints -/
def rLenSO (w : World) : List V → Hp → VK → Prop := fun xs H Q => ∃ (a : Addr) (S : Int → Bool) (n : Nat), xs = [.ref a] ∧ H a = some (SetO w a S n) ∧ ((∃ ks : List Int, ks.Nodup ∧ ks.length = n ∧ ∀ k, k ∈ ks ↔ S k = true) → Q (.int (n : Nat)) H)
theorem call_lenSO : CallR X (.builtin "len") (rLenSO X.w) := by
  intro pins s σ H xs us Q I r h
  obtain ⟨a, S, n, rfl, ha, q⟩ := h
  obtain rfl := Vals.ref1 r
  have R := setO_get I ha
  have cnt := SetR.count R
  obtain ⟨o, es, ep, t, ho, hex, hd, _, _, _, hsb, hf, hn, _⟩ := R
  refine call_len_set ho hex hd hf (by rw [hn]; unfold scanBound at hsb; omega) ?_
  exact ⟨.int (n : Nat), H, I.tok _, ⟨_, by rw [hn]⟩, q cnt⟩

theorem setO_fresh {P : Program} {w : World} {H : Hp} (h : Heap) : ObjOk P w H (h.push (emptySet w)) h.objs.size (SetO w h.objs.size (fun _ => false) 0) := by
  refine setO_new ((setR_new_at (ns := []) (Heap.get?_push_size _ rfl)).congr fun j => ?_)
  simp
theorem addI_ok {pins : List (Addr × Obj)} {σ : L2.St} {H : Hp} {s : Shared} {E : Value → Shared → Prop} {D : Addr} {S : Int → Bool} {n : Nat} {y : Int} {t : Tok} {Q : Value → Shared → Prop} (I : Inv X pins σ H s) (hD : H D = some (SetO X.w D S n)) (room : n + 1 < scanBound)
    (h : ∀ s', Inv X pins σ (upd H D (SetO X.w D (fun j => S j || decide (j = y)) (if S y = true then n else n + 1))) s' → Q .none s') : wpAny (model X.prog X.w) X.A (call (.builtin "set.add") [.ref D, .int y t]) Q E s := by
  refine setR_add (setO_get I hD) room fun h' sb fresh => ?_
  have he : ∃ u, h'.get? D = some u := by
    obtain ⟨o, _, _, _, ho, _⟩ := id fresh
    exact ⟨o, ho⟩
  exact h _ (I.write (e := D) (t' := s.toks + 1) (by rw [hD]; trivial) (.inl rfl) (fun b u hb hu => (sb.2 b hb).trans hu) he (setO_new fresh))

/-- {elt for target in iter if ..}, elt an int: D the new set -/
def tScI (w : World) (wi : TI) (g : TG) (tt : TT) (te : TE) (vs : List Nat) : TE := fun σ H Q => wi σ H fun J H1 => ∀ D, H1 D = none → ∃ W : Nat → Nat → Hp → Prop, (∃ m, W 0 m (upd H1 D (SetO w D (fun _ => false) 0))) ∧ ∀ i m H, W i m H →
  (J.stop i H ∧ Q (.ref D) H) ∨ (J.go i H ∧ ∃ Nx : Hp → Prop, (∀ H', Nx H' → ∃ m', m' < m ∧ W (i + 1) m' H') ∧ ∀ x H', J.yld i H x H' → g x (wipe σ vs) H' fun σ2 H2 => wipe σ2 vs = wipe σ vs ∧ tt σ2 H2 fun b H3 =>
    if b = true then te σ2 H3 fun y H4 => ∃ (c : Int) (S : Int → Bool) (n : Nat), y = .int c ∧ H4 D = some (SetO w D S n) ∧ n + 1 < scanBound ∧ Nx (upd H4 D (SetO w D (fun j => S j || decide (j = c)) (if S c = true then n else n + 1))) else Nx H3)
theorem pe_scI {elt tg iter : Expr} {ifs : List Expr} {scope : Scope} {own : List (PySem.Str × Nat)} {pos : Pos} {wi : TI} {g : TG} {tt : TT} {te : TE} (hc : X.calm = true) (hN : X.N.Nodup) (hi : PI X tg iter wi) (ok : BlkOk X.N X.env.scope scope own)
    (hg : ∀ (s : Shared) (H : Hp) (C : Addr) (cl : List (PySem.Str × Addr)) (fp : List Addr), PG (X.blk s H scope (compEnvC scope cl C X.env) fp) tg g) (ht : ∀ (s : Shared) (H : Hp) (C : Addr) (cl : List (PySem.Str × Addr)) (fp : List Addr), PTs (X.blk s H scope (compEnvC scope cl C X.env) fp) ifs tt)
    (he : ∀ (s : Shared) (H : Hp) (C : Addr) (cl : List (PySem.Str × Addr)) (fp : List Addr), PE (X.blk s H scope (compEnvC scope cl C X.env) fp) elt te) (hs : ∀ x, foldedSetIterable iter X.env x = pure x := by intro _; rfl) :
    PE X (.SetComp elt [⟨tg, iter, ifs, 0⟩] scope pos) (tScI X.w wi g tt te (own.map (·.2))) := by
  refine ⟨fun pins s σ H Q I h => ?_⟩
  rw [PpSet.eval_SetComp]
  have hfree : ∀ y ∈ scope.names, y.2 = .free → ∃ c, X.env.cells.lookup y.1 = some c := fun y hy e => by
    rcases ok.free y hy e with k | k
    · exact I.ok.has _ (.inl k)
    · exact I.ok.has _ (.inr k)
  refine wpAny_comprehension_free (use := none) rfl hs (closure_ok hfree) ok.kind (fun y hy e => by rw [ok.uniq y hy, e])
    (thn (hi.run pins s σ H _ I h) fun xv s1 hx => thn hx fun itv s2 h2 => ?_)
  obtain ⟨it, fp, tn, J, H2, rfl, I2, T, st2, f2, q⟩ := h2
  refine PpSet.newSet_ok (newEnv_comp ?_)
  generalize hD : s2.heap.objs.size = D
  obtain ⟨W, ⟨m0, w0⟩, turn⟩ := q D (I2.hok.fresh (Nat.le_of_eq hD))
  generalize hs3 : ({ s2 with heap := s2.heap.push (emptySet X.w) } : Shared) = s3
  have h3 : s3.heap = s2.heap.push (emptySet X.w) := by rw [← hs3]
  generalize hH3 : upd H2 D (SetO X.w D (fun _ => false) 0) = H3 at w0
  have I3 : Inv X pins σ H3 s3 := by
    rw [← hs3, ← hH3, ← hD]
    exact I2.laid (t' := s2.toks) (fun b o e => Heap.get?_push_of_some _ e) (Nat.le_refl _) (setO_fresh s2.heap)
  have f3 : ∀ b ∈ fp, FpOk X pins H3 b ∧ b < s3.heap.objs.size := fun b hb => by
    obtain ⟨o, e, _⟩ := T.obj _ _ st2 b hb
    have hlt := Heap.lt_size e
    refine ⟨⟨?_, (f2 b hb).2⟩, by rw [h3, Heap.size_push]; exact Nat.lt_succ_of_lt hlt⟩
    rw [← hH3, upd_ne (by rw [← hD]; exact Nat.ne_of_lt hlt)]
    exact (f2 b hb).1
  have st3 : tn 0 s3.heap := T.keep _ _ _ st2 fun b _ o e => by rw [h3]; exact Heap.get?_push_of_some _ e
  have I4 := block_start I3 ok hN f3
  have nfp : ∀ b ∈ fp, H3 b = none := fun b hb => (f3 b hb).1.1
  have pg := hg s3 H3 s3.heap.objs.size (cellsFrom (s3.heap.objs.size + 1) scope.names (cloFrom X.env.cells scope.names [])) fp
  have pt := ht s3 H3 s3.heap.objs.size (cellsFrom (s3.heap.objs.size + 1) scope.names (cloFrom X.env.cells scope.names [])) fp
  have pe := he s3 H3 s3.heap.objs.size (cellsFrom (s3.heap.objs.size + 1) scope.names (cloFrom X.env.cells scope.names [])) fp
  show codeAny _ _ (.compStart (.SetComp elt [⟨tg, iter, ifs, 0⟩] scope pos) 0 (.ref it) (.ref D) (compEnvC scope (cellsFrom (s3.heap.objs.size + 1) scope.names (cloFrom X.env.cells scope.names [])) s3.heap.objs.size X.env)) (compPost (model X.prog X.w) X.A X.xe none (EP X pins σ Q) (.ref D) s3.heap.objs.size) { s3 with heap := pushCells (s3.heap.push { cls := .type "dict", data := .dict #[] }) scope.names }
  generalize hce : compEnvC scope (cellsFrom (s3.heap.objs.size + 1) scope.names (cloFrom X.env.cells scope.names [])) s3.heap.objs.size X.env = ce at I4 pg pt pe ⊢
  have cL : ce.locals = s3.heap.objs.size := by rw [← hce]; rfl
  generalize hs4 : ({ s3 with heap := pushCells (s3.heap.push { cls := .type "dict", data := .dict #[] }) scope.names } : Shared) = s4 at I4 ⊢
  have st4 : tn 0 s4.heap := T.keep _ _ _ st3 fun b _ o e => by rw [← hs4]; exact pushCells_keeps _ _ _ _ (Heap.get?_push_of_some _ e)
  have stat : ∀ {σ' : L2.St} {H' : Hp} {s' : Shared}, Inv (X.blk s3 H3 scope ce fp) [] σ' H' s' → (∀ b ∈ fp, H' b = none) → ∀ b ∈ fp, FpOk (X.blk s3 H3 scope ce fp) [] H' b := fun {σ' H' s'} I' hn b hb =>
    ⟨hn b hb, (I'.ok.exf b hb).1, I'.ok.exfs b hb, .inl hb, fun x c e => (I'.ok.exf b hb).2 x c e, fun p hp => absurd (show p ∈ ([] : List (Addr × Obj)) ++ [] from hp) (by simp)⟩
  have loop : codeAny (model X.prog X.w) X.A (.compLoop (.SetComp elt [⟨tg, iter, ifs, 0⟩] scope pos) 0 (.ref it) (.ref D) ce) (compPost (model X.prog X.w) X.A X.xe none (EP X pins σ Q) (.ref D) s3.heap.objs.size) s4 := by
    refine PpSet.compLoopS_any (fun n s' => ∃ i H', Inv (X.blk s3 H3 scope ce fp) [] (wipe σ (own.map (·.2))) H' s' ∧ tn i s'.heap ∧ (∀ b ∈ fp, H' b = none) ∧ W i n H') ?_ m0 ⟨0, H3, I4, st4, nfp, w0⟩
    rintro n s5 ⟨i, H5, I5, st5, n5, w5⟩
    rcases turn i n H5 w5 with ⟨stop, qq⟩ | ⟨go, Nx, hNx, step⟩
    · refine thnF (T.done (X.blk s3 H3 scope ce fp) rfl rfl rfl hc i [] s5 _ H5 (fun _ _ => False) I5 (stat I5 n5) st5 stop) fun r s6 ⟨hr, I6⟩ => ?_
      subst hr
      have I7 : Inv X pins σ H5 s6 := I3.call' (ch := fp) I6.os I6.base I6.hok I6.bare fun b hb => ⟨(f3 b hb).1.2.2.2.1, (f3 b hb).1.2.1, (f3 b hb).1.2.2.2.2.1, (f3 b hb).1.2.2.2.2.2⟩
      have nC : H5 s3.heap.objs.size = none := by
        rw [← cL]
        exact I6.free
      obtain ⟨m, hn, _⟩ := I6.loc
      have hn : s6.heap.Ns ce.locals m := hn
      rw [cL] at hn
      refine ⟨m, hn, fun h'' sb => ?_⟩
      obtain ⟨g0, g1, g2, g3, g4, g5⟩ : FpOk X pins H5 s3.heap.objs.size := I3.fpOk (Nat.le_refl _) nC
      exact ⟨.ref D, H5, I7.turned (t' := s6.toks) (fun b o hb e => (sb.2 b hb).trans e) g0 g1 g3 g4 g5, rfl, qq⟩
    · refine thnF (T.item (X.blk s3 H3 scope ce fp) rfl rfl rfl hc i [] s5 _ H5 (fun _ _ => False) I5 (stat I5 n5) st5 go) fun r s6 ⟨u, hr, h6⟩ => ?_
      subst hr
      refine thnF h6 fun _ s7 ⟨x, H7, I7, r7, y7, st7, n7⟩ => ?_
      have I7' := I7.pinned (stat I7 n7) (T.obj _ _ st7)
      refine thnF (pg.run _ s7 _ H7 x u _ I7' r7 (step x H7 y7)) fun _ s8 ⟨σ8, H8, I8, hw8, q8⟩ => ?_
      refine thnF (pt.run _ s8 σ8 H8 _ I8 q8) fun b s9 ⟨H9, I9, q9⟩ => ?_
      have fin : ∀ {s' : Shared} {H' : Hp}, Inv (X.blk s3 H3 scope ce fp) ([] ++ pinsAt fp s7.heap) σ8 H' s' → Nx H' → ∃ m, m < n ∧ ∃ i H', Inv (X.blk s3 H3 scope ce fp) [] (wipe σ (own.map (·.2))) H' s' ∧ tn i s'.heap ∧ (∀ b ∈ fp, H' b = none) ∧ W i m H' := fun {s' H'} I' nx => by
        obtain ⟨m', hm, w'⟩ := hNx H' nx
        have pin' : ∀ b ∈ fp, ∀ o, s7.heap.get? b = some o → s'.heap.get? b = some o ∧ H' b = none := fun b hb o e =>
          let z := I'.pin (b, o) (List.mem_append_right _ (List.mem_append_right _ (mem_pinsAt hb e)))
          ⟨z.1, z.2.1⟩
        refine ⟨m', hm, i + 1, H', (I'.unpinned (pins := [])).weak (by rw [← hw8, wipe_length]) (fun j v e => ?_), T.keep _ _ _ st7 fun b hb o e => (pin' b hb o e).1, fun b hb => ?_, w'⟩
        · rw [← hw8] at e
          exact (wipe_some e).1
        · obtain ⟨o, e, _⟩ := T.obj _ _ st7 b hb
          exact (pin' b hb o e).2
      cases b with
      | false =>
        simp only [Bool.false_eq_true, if_false] at q9 ⊢
        exact fin I9 q9
      | true =>
        simp only [if_true] at q9 ⊢
        refine thnF (pe.run _ s9 σ8 H9 _ I9 q9) fun z s10 ⟨yv, H10, I10, r10, cb, S0, n0, ey, hD10, hz10, nx⟩ => ?_
        subst ey
        obtain ⟨tz, rfl⟩ : ∃ t, z = Value.int cb t := r10
        exact addI_ok (X := X.blk s3 H3 scope ce fp) I10 hD10 hz10 fun s11 I11 => fin I11 nx
  exact PpSet.codeAny_compStart_set loop (T.self X.A 0 _ _ _ st4 loop)
end
end K58
/-! Data on the abstract heap; heaps that grow; short rules to read with. -/
namespace K58
open PySem PySem.Spec PyProof.Rows L2

/-! ### heaps -/
/-- all but what stands at M is kept; tuples are kept anyhow -/
structure Kp (M : List Addr) (H H' : Hp) : Prop where
  keep : ∀ a o, a ∉ M → H a = some o → H' a = some o
  tup : ∀ a xs, Rd H a (.tup xs) → Rd H' a (.tup xs)
theorem Kp.refl {M : List Addr} {H : Hp} : Kp M H H := ⟨fun _ _ _ h => h, fun _ _ h => h⟩
theorem Kp.trans {M : List Addr} {H H1 H2 : Hp} (a : Kp M H H1) (b : Kp M H1 H2) : Kp M H H2 :=
  ⟨fun c o n h => b.keep c o n (a.keep c o n h), fun c xs h => b.tup c xs (a.tup c xs h)⟩
theorem Kp.mono {M N : List Addr} {H H' : Hp} (a : Kp M H H') (s : ∀ x ∈ M, x ∈ N) : Kp N H H' := ⟨fun c o n h => a.keep c o (fun z => n (s c z)) h, a.tup⟩
theorem Kp.any {N : List Addr} {H H' : Hp} (a : Kp [] H H') : Kp N H H' := a.mono fun _ z => nomatch z
theorem Kp.new {M : List Addr} {H : Hp} {p : Addr} {o : HO} (h : H p = none) : Kp M H (upd H p o) := by
  refine ⟨fun a u _ e => ?_, fun a xs e => ?_⟩
  · rw [upd_ne (ne_of_none e h)]
    exact e
  · rcases e with e | ⟨ob, e⟩
    · refine .inl ?_
      rw [upd_ne (ne_of_none e h)]
      exact e
    · refine .inr ⟨ob, ?_⟩
      rw [upd_ne (ne_of_none e h)]
      exact e
/-- what stands at a writable thing is changed -/
theorem Kp.wr {H : Hp} {p : Addr} {o : HO} (h : Mut (H p)) : Kp [p] H (upd H p o) := by
  refine ⟨fun a u n e => ?_, fun a xs e => ?_⟩
  · rw [upd_ne fun z => n (by rw [z]; exact List.mem_cons_self)]
    exact e
  · have ne : a ≠ p := fun z => by
      subst z
      rcases e with e | ⟨ob, e⟩ <;> rw [e] at h <;> exact h
    rcases e with e | ⟨ob, e⟩
    · refine .inl ?_
      rw [upd_ne ne]
      exact e
    · refine .inr ⟨ob, ?_⟩
      rw [upd_ne ne]
      exact e
/-- what a heap H did not know may change behind it -/
theorem Kp.fresh {M : List Addr} {N : List Addr} {H H1 H2 : Hp} (a : Kp M H H1) (b : Kp N H1 H2) (n : ∀ x ∈ N, x ∈ M ∨ H x = none) : Kp M H H2 := by
  refine ⟨fun c o nc h => b.keep c o (fun z => ?_) (a.keep c o nc h), fun c xs h => b.tup c xs (a.tup c xs h)⟩
  rcases n c z with q | q
  · exact nc q
  · rw [h] at q
    cases q
theorem Kp.same {H H' : Hp} (e : Same H H') : Kp [] H H' := by
  refine ⟨fun a o _ h => e a o h, fun a xs h => ?_⟩
  rcases h with h | ⟨ob, h⟩
  · exact .inl (e _ _ h)
  · exact .inr ⟨ob, e _ _ h⟩
theorem Kp.get {M : List Addr} {H H' : Hp} {a : Addr} {o : HO} (k : Kp M H H') (n : a ∉ M) (h : H a = some o) : H' a = some o := k.keep a o n h
theorem Kp.get0 {H H' : Hp} {a : Addr} {o : HO} (k : Kp [] H H') (h : H a = some o) : H' a = some o := k.keep a o (fun z => nomatch z) h
theorem Kp.free {H H' : Hp} {a : Addr} (k : Kp [] H H') (h : H' a = none) : H a = none := by
  cases q : H a with
  | none => rfl
  | some o =>
    rw [k.get0 q] at h
    cases h
theorem Kp.freeM {M : List Addr} {H H' : Hp} {a : Addr} (k : Kp M H H') (n : a ∉ M) (h : H' a = none) : H a = none := by
  cases q : H a with
  | none => rfl
  | some o =>
    rw [k.get n q] at h
    cases h
theorem Kp.sqt {K : PySem.W.Frag} {M : List Addr} {H H' : Hp} {a : Addr} {xs : List V} (k : Kp M H H') (h : SqT K H a xs) : SqT K H' a xs := by
  rcases h with h | h
  · exact .inl (k.tup _ _ h)
  · exact .inr h
theorem Kp.sql0 {K : PySem.W.Frag} {H H' : Hp} {a : Addr} {xs : List V} (k : Kp [] H H') (h : SqL K H a xs) : SqL K H' a xs := by
  rcases h with (h | ⟨o, h⟩) | h
  · exact .inl (.inl (k.get0 h))
  · exact .inl (.inr ⟨o, k.get0 h⟩)
  · exact .inr h

/-! ### data: none, bools, ints, texts, tuples of these -/
mutual
inductive Dt (K : PySem.W.Frag) (H : Hp) : V → PyData → Prop
  | non : Dt K H .non .none
  | bl (b : Bool) : Dt K H (.bl b) (.bool b)
  | int (i : Int) : Dt K H (.int i) (.int i)
  | str (x : Str) : Dt K H (.str x) (.str x)
  | tup {a : Addr} {xs : List V} {ds : List PyData} : SqT K H a xs → DtAll K H xs ds → Dt K H (.ref a) (.tuple ds)
inductive DtAll (K : PySem.W.Frag) (H : Hp) : List V → List PyData → Prop
  | nil : DtAll K H [] []
  | cons {v : V} {vs : List V} {d : PyData} {ds : List PyData} : Dt K H v d → DtAll K H vs ds → DtAll K H (v :: vs) (d :: ds)
end
section
variable {K : PySem.W.Frag} {M : List Addr} {H H' : Hp}
mutual
theorem Dt.mono (k : Kp M H H') : ∀ (d : PyData) (v : V), Dt K H v d → Dt K H' v d
  | .none, _, h => by cases h; exact .non
  | .bool b, _, h => by cases h; exact .bl b
  | .int i, _, h => by cases h; exact .int i
  | .str x, _, h => by cases h; exact .str x
  | .list _, _, h => by cases h
  | .dict _, _, h => by cases h
  | .tuple ds, _, h => by
    cases h with
    | tup h1 h2 => exact .tup (k.sqt h1) (DtAll.mono k ds _ h2)
theorem DtAll.mono (k : Kp M H H') : ∀ (ds : List PyData) (vs : List V), DtAll K H vs ds → DtAll K H' vs ds
  | [], _, h => by cases h; exact .nil
  | d :: ds, _, h => by
    cases h with
    | cons h1 h2 => exact .cons (Dt.mono k d _ h1) (DtAll.mono k ds _ h2)
end
mutual
theorem Dt.dp : ∀ (d : PyData) (v : V), Dt K H v d → Dp K H v d
  | .none, _, h => by cases h; exact .non
  | .bool b, _, h => by cases h; exact .bl b
  | .int i, _, h => by cases h; exact .int i
  | .str x, _, h => by cases h; exact .str x
  | .list _, _, h => by cases h
  | .dict _, _, h => by cases h
  | .tuple ds, _, h => by
    cases h with
    | tup h1 h2 => exact .tup h1 (DtAll.dp ds _ h2)
theorem DtAll.dp : ∀ (ds : List PyData) (vs : List V), DtAll K H vs ds → DpAll K H vs ds
  | [], _, h => by cases h; exact .nil
  | d :: ds, _, h => by
    cases h with
    | cons h1 h2 => exact .cons (Dt.dp d _ h1) (DtAll.dp ds _ h2)
end
theorem Dt.up {v : V} {d : PyData} (k : Kp M H H') (h : Dt K H v d) : Dt K H' v d := Dt.mono k d v h
theorem DtAll.up {vs : List V} {ds : List PyData} (k : Kp M H H') (h : DtAll K H vs ds) : DtAll K H' vs ds := DtAll.mono k ds vs h
theorem DtAll.length : ∀ {vs : List V} {ds : List PyData}, DtAll K H vs ds → vs.length = ds.length
  | _, _, .nil => rfl
  | _, _, .cons _ t => by rw [List.length_cons, List.length_cons, DtAll.length t]
theorem DtAll.get : ∀ {vs : List V} {ds : List PyData} {i : Nat} {d : PyData}, DtAll K H vs ds → ds[i]? = some d → ∃ v, vs[i]? = some v ∧ Dt K H v d
  | _, _, _, _, .nil, e => by simp at e
  | _, _, 0, d, .cons (v := v) h _, e => ⟨v, rfl, by rw [List.getElem?_cons_zero] at e; cases e; exact h⟩
  | _, _, i + 1, d, .cons _ t, e => by
    obtain ⟨v, h1, h2⟩ := DtAll.get (i := i) t (by simpa using e)
    exact ⟨v, by simpa using h1, h2⟩
theorem DtAll.of : ∀ {vs : List V} {ds : List PyData} {i : Nat} {v : V}, DtAll K H vs ds → vs[i]? = some v → ∃ d, ds[i]? = some d ∧ Dt K H v d
  | _, _, _, _, .nil, e => by simp at e
  | _, _, 0, _, .cons (d := d) h _, e => ⟨d, rfl, by rw [List.getElem?_cons_zero] at e; cases e; exact h⟩
  | _, _, i + 1, _, .cons _ t, e => by
    obtain ⟨v, h1, h2⟩ := DtAll.of (i := i) t (by simpa using e)
    exact ⟨v, by simpa using h1, h2⟩
theorem DtAll.append : ∀ {vs us : List V} {ds es : List PyData}, DtAll K H vs ds → DtAll K H us es → DtAll K H (vs ++ us) (ds ++ es)
  | _, _, _, _, .nil, s => s
  | _, _, _, _, .cons h t, s => .cons h (DtAll.append t s)
theorem DtAll.take : ∀ {vs : List V} {ds : List PyData} (n : Nat), DtAll K H vs ds → DtAll K H (vs.take n) (ds.take n)
  | _, _, 0, _ => .nil
  | _, _, _ + 1, .nil => .nil
  | _, _, n + 1, .cons h t => .cons h (DtAll.take n t)
theorem DtAll.drop : ∀ {vs : List V} {ds : List PyData} (n : Nat), DtAll K H vs ds → DtAll K H (vs.drop n) (ds.drop n)
  | _, _, 0, h => h
  | _, _, _ + 1, .nil => .nil
  | _, _, n + 1, .cons _ t => DtAll.drop n t
theorem DtAll.one {v : V} {d : PyData} (h : Dt K H v d) : DtAll K H [v] [d] := .cons h .nil
theorem DtAll.cut {vs : List V} {ds : List PyData} (a b : Nat) (h : DtAll K H vs ds) : DtAll K H ((vs.drop a).take b) ((ds.drop a).take b) := (h.drop a).take b
theorem dt_int {v : V} {i : Int} (h : Dt K H v (.int i)) : v = .int i := by cases h; rfl
theorem dt_non {v : V} (h : Dt K H v .none) : v = .non := by cases h; rfl
theorem dt_str {v : V} {x : Str} (h : Dt K H v (.str x)) : v = .str x := by cases h; rfl
theorem dt_tup {v : V} {ds : List PyData} (h : Dt K H v (.tuple ds)) : ∃ a xs, v = .ref a ∧ SqT K H a xs ∧ DtAll K H xs ds := by
  cases h with
  | tup h1 h2 => exact ⟨_, _, rfl, h1, h2⟩
theorem dt_of {p : Addr} {xs : List V} {ds : List PyData} (h : H p = some (.tup xs)) (a : DtAll K H xs ds) : Dt K H (.ref p) (.tuple ds) := .tup (SqT.of h) a
theorem dtAll_ints : ∀ (ns : List Int), DtAll K H (ns.map V.int) (ns.map PyData.int)
  | [] => .nil
  | n :: ns => .cons (.int n) (dtAll_ints ns)
/-- an int or none -/
def oI : Option Int → PyData
  | none => .none
  | some i => .int i
def oV : Option Int → V
  | none => .non
  | some i => .int i
theorem dt_oV (o : Option Int) : Dt K H (oV o) (oI o) := by
  cases o with
  | none => exact .non
  | some i => exact .int i
theorem dt_oI {v : V} {o : Option Int} (h : Dt K H v (oI o)) : v = oV o := by
  cases o with
  | none => exact dt_non h
  | some i => exact dt_int h
theorem dtAll_oV : ∀ (os : List (Option Int)), DtAll K H (os.map oV) (os.map oI)
  | [] => .nil
  | o :: os => .cons (dt_oV o) (dtAll_oV os)
theorem dtAll_oI : ∀ {os : List (Option Int)} {vs : List V}, DtAll K H vs (os.map oI) → vs = os.map oV
  | [], _, h => by cases h; rfl
  | o :: os, _, h => by
    cases h with
    | cons h1 h2 => rw [dt_oI h1, dtAll_oI h2]; rfl
end

/-! ### reading: the forms of the goals -/
section
variable {K : PySem.W.Frag} {σ : L2.St} {H : Hp} {Q : VK} {ta tb te : TE} {t : TA} {D : Ends} {tc : TT}
theorem i_var {i : Nat} {v : V} (h : σ[i]? = some (some v)) (q : Q v H) : tVar i σ H Q := ⟨v, h, q⟩
theorem i_c {v : V} (q : Q v H) : tC v σ H Q := q
theorem i_op {r : R2} (q : ta σ H fun x H1 => tb σ H1 fun y H2 => r x y H2 Q) : tOp r ta tb σ H Q := q
theorem i_un {r : V → Hp → VK → Prop} (q : ta σ H fun x H1 => r x H1 Q) : tUn r ta σ H Q := q
theorem i_nil {Q : List V → Hp → Prop} (q : Q [] H) : tNil σ H Q := q
theorem i_cons {tr : TA} {Q : List V → Hp → Prop} (q : ta σ H fun x H1 => tr σ H1 fun xs H2 => Q (x :: xs) H2) : tCons ta tr σ H Q := q
theorem i_CB {r : List V → Hp → VK → Prop} (q : t σ H fun vs H1 => r vs H1 Q) : tCB r t σ H Q := q
theorem i_call {sp : Sp} {E : XK} (q : t σ H fun vs H1 => sp vs H1 Q E) : tCall sp [] E t σ H Q := by
  have e : (fun vs H1 => sp (vs ++ []) H1 Q E) = fun (vs : List V) H1 => sp vs H1 Q E := by
    funext vs H1
    rw [List.append_nil]
  show t σ H fun vs H1 => sp (vs ++ []) H1 Q E
  rw [e]
  exact q
theorem i_seq {s u : TS} (q : s { D with nx := u D } σ H) : tSeq s u D σ H := q
theorem i_asg {g : TG} (q : te σ H fun x H1 => g x σ H1 D.nx) : tAsg te g D σ H := q
theorem i_name {i : Nat} {v : V} {σ' : L2.St} {Q : L2.St → Hp → Prop} (e : σ.set i (some v) = σ') (q : Q σ' H) : gName i v σ H Q := by
  subst e
  exact q
theorem i_start {u : TS} {N : List Str} {vs : List V} {σ' : L2.St} (e : L2.start N vs = σ') (q : u D σ' H) : u D (L2.start N vs) H := by
  subst e
  exact q
theorem i_aug {i : Nat} {x y : Int} {f : Int → Int → Int} {σ' : L2.St} (hx : σ[i]? = some (some (.int x))) (h : te σ H fun z H1 => z = .int y ∧ D.nx σ' H1) (mono : ∀ Q Q' : VK, (∀ z H1, Q z H1 → Q' z H1) → te σ H Q → te σ H Q') (e : σ.set i (some (.int (f x y))) = σ') : tAug i te (ipI f) D σ H := by
  subst e
  refine ⟨.int x, hx, mono _ _ (fun z H1 ⟨ez, q⟩ => ?_) h⟩
  subst ez
  exact ⟨x, y, rfl, rfl, q⟩
theorem i_ret (q : te σ H D.rt) : tRet te D σ H := q
theorem i_drop (q : te σ H fun _ H1 => D.nx σ H1) : tDrop te D σ H := q
theorem i_next (q : D.nx σ H) : tNext D σ H := q
theorem i_if {a b : TS} (q : tc σ H fun c H1 => if c = true then a D σ H1 else b D σ H1) : tIfS tc a b D σ H := q
theorem i_ifE (q : tc σ H fun c H1 => if c = true then ta σ H1 Q else tb σ H1 Q) : tIf tc ta tb σ H Q := q
theorem i_test {Q : Bool → Hp → Prop} (q : te σ H fun x H' => ∃ k, x = .bl k ∧ Q k H') : tTest te σ H Q := q
theorem i_B {Q : Bool → Hp → Prop} (q : te σ H fun x H' => ∃ k, x = .bl k ∧ Q k H') : tB te σ H Q := q
theorem i_and {a b : TT} {Q : Bool → Hp → Prop} (q : a σ H fun c H1 => if c = true then b σ H1 Q else Q false H1) : tAnd a b σ H Q := q
theorem i_or {a b : TT} {Q : Bool → Hp → Prop} (q : a σ H fun c H1 => if c = true then Q true H1 else b σ H1 Q) : tOr a b σ H Q := q
theorem i_not {a : TT} {Q : Bool → Hp → Prop} (q : a σ H fun c H1 => Q (!c) H1) : tNot a σ H Q := q
theorem i_notV (q : te σ H fun x H1 => ∃ c, x = .bl c ∧ Q (.bl (!c)) H1) : tNotV te σ H Q := q
theorem i_isN (q : te σ H fun x H1 => Q (.bl (decide (x = .non))) H1) : tIsN te σ H Q := q
theorem i_notN (q : te σ H fun x H1 => Q (.bl (!decide (x = .non))) H1) : tNotN te σ H Q := q
theorem i_bl {k : Bool} {P : Bool → Prop} (q : P k) : ∃ c, V.bl k = .bl c ∧ P c := ⟨k, rfl, q⟩
theorem i_eq {x y : V} (h : scal x y = true) (q : Q (.bl (decide (x = y))) H) : rEq x y H Q := ⟨h, q⟩
theorem i_eqI {i j : Int} (q : Q (.bl (decide (i = j))) H) : rEq (.int i) (.int j) H Q := ⟨rfl, by
  have e : decide (V.int i = V.int j) = decide (i = j) := decide_eq_decide.mpr ⟨fun z => V.int.inj z, fun z => by rw [z]⟩
  rw [e]
  exact q⟩
theorem i_eqS {i j : Str} (q : Q (.bl (decide (i = j))) H) : rEq (.str i) (.str j) H Q := ⟨rfl, by
  have e : decide (V.str i = V.str j) = decide (i = j) := decide_eq_decide.mpr ⟨fun z => V.str.inj z, fun z => by rw [z]⟩
  rw [e]
  exact q⟩
theorem i_I0 {g : Int → Int → V} {i j : Int} (q : Q (g i j) H) : rI0 g (.int i) (.int j) H Q := ⟨i, j, rfl, rfl, q⟩
theorem i_I {C : Int → Int → Prop} {g : Int → Int → V} {i j : Int} (hc : C i j) (q : Q (g i j) H) : rI C g (.int i) (.int j) H Q := ⟨i, j, rfl, rfl, hc, q⟩
theorem i_U {g : Int → V} {i : Int} (q : Q (g i) H) : rU g (.int i) H Q := ⟨i, rfl, q⟩
/-- t[i] of data -/
theorem i_ixT {v : V} {ds : List PyData} {i : Int} {d : PyData} (h : Dt K H v (.tuple ds)) (hi : atI ds i = some d) (q : ∀ u, Dt K H u d → Q u H) : rIxT K v (.int i) H Q := by
  obtain ⟨a, xs, rfl, h1, h2⟩ := dt_tup h
  obtain ⟨j, hj, hd, hl, hb⟩ := atI_get hi
  obtain ⟨u, hu, hd2⟩ := h2.get hd
  refine ⟨a, xs, i, u, rfl, rfl, h1, ?_, q u hd2⟩
  unfold atI ixN at hi ⊢
  rw [h2.length]
  by_cases h0 : 0 ≤ i
  · rw [if_pos h0] at hi ⊢
    by_cases h3 : i < ds.length
    · rw [if_pos h3] at hi ⊢
      have hi' : ds[i.toNat]? = some d := hi
      show xs[i.toNat]? = some u
      have e : j = i.toNat := by
        have e1 : seqIndex? i ds.length = some i.toNat := (ixN_seq (by unfold ixN; rw [if_pos h0, if_pos h3])).1
        rw [hj] at e1
        exact Option.some.inj e1
      rw [← e]
      exact hu
    · rw [if_neg h3] at hi
      cases hi
  · rw [if_neg h0] at hi ⊢
    by_cases h3 : -(ds.length : Int) ≤ i
    · rw [if_pos h3] at hi ⊢
      show xs[(i + ds.length).toNat]? = some u
      have e : j = (i + ds.length).toNat := by
        have e1 : seqIndex? i ds.length = some (i + ds.length).toNat := (ixN_seq (by unfold ixN; rw [if_neg h0, if_pos h3])).1
        rw [hj] at e1
        exact Option.some.inj e1
      rw [← e]
      exact hu
    · rw [if_neg h3] at hi
      cases hi
theorem i_ixTi {v : V} {ds : List PyData} {i n : Int} (h : Dt K H v (.tuple ds)) (hi : atI ds i = some (.int n)) (q : Q (.int n) H) : rIxT K v (.int i) H Q :=
  i_ixT h hi fun u hu => by rw [dt_int hu]; exact q
theorem i_ixTo {v : V} {ds : List PyData} {i : Int} {o : Option Int} (h : Dt K H v (.tuple ds)) (hi : atI ds i = some (oI o)) (q : Q (oV o) H) : rIxT K v (.int i) H Q :=
  i_ixT h hi fun u hu => by rw [dt_oI hu]; exact q
theorem i_ixTs {v : V} {ds : List PyData} {i : Int} {x : Str} (h : Dt K H v (.tuple ds)) (hi : atI ds i = some (.str x)) (q : Q (.str x) H) : rIxT K v (.int i) H Q :=
  i_ixT h hi fun u hu => by rw [dt_str hu]; exact q
theorem i_ixL {l : Addr} {xs : List V} {i : Int} {v : V} (h : SqL K H l xs) (hv : atI xs i = some v) (q : Q v H) : rIxL K (.ref l) (.int i) H Q := ⟨l, xs, i, v, rfl, rfl, h, hv, q⟩
theorem small {n : Nat} (h : n ≤ 100000) : n ≤ sizeLine := Nat.le_trans h (by decide)
theorem small' {n : Nat} (h : n ≤ 100000) : n < sizeLine := Nat.lt_of_le_of_lt h (by decide)
/-- a new tuple, a new list; Q is kept whole -/
def GTup (Q : VK) (xs : List V) (H : Hp) : Prop := xs.length ≤ sizeLine ∧ ∀ p, H p = none → Q (.ref p) (upd H p (.tup xs))
def GLst (Q : VK) (xs : List V) (H : Hp) : Prop := xs.length ≤ sizeLine ∧ ∀ p, H p = none → Q (.ref p) (upd H p (.lst xs))
theorem i_tup (q : t σ H (GTup Q)) : tTup t σ H Q := q
theorem i_lst (q : t σ H (GLst Q)) : tLst t σ H Q := q
theorem g_tup {xs : List V} {ds : List PyData} (h : DtAll K H xs ds) (hz : ds.length ≤ 100000) (q : ∀ v H', Kp [] H H' → Dt K H' v (.tuple ds) → Q v H') : GTup Q xs H :=
  ⟨by rw [h.length]; exact small hz, fun p hp => q _ _ (Kp.new hp) (dt_of upd_same (h.up (M := []) (Kp.new hp)))⟩
theorem g_lst {xs : List V} (hz : xs.length ≤ 100000) (q : ∀ p H', Kp [] H H' → H p = none → H' p = some (.lst xs) → Q (.ref p) H') : GLst Q xs H :=
  ⟨small hz, fun p hp => q _ _ (Kp.new hp) hp upd_same⟩
/-- xs.append(y) -/
theorem i_bm {T : String} {r : V → List V → Hp → VK → Prop} (q : te σ H fun x H1 => tyV K T x H1 ∧ t σ H1 fun xs H2 => r x xs H2 Q) : tBM K T r te t σ H Q := q
theorem i_bm0 {T : String} {r : V → List V → Hp → VK → Prop} (q : te σ H fun x H1 => tyV K T x H1 ∧ r x [] H1 Q) : tBM0 K T r te σ H Q := q
theorem ty_lst {l : Addr} {xs : List V} (h : SqL K H l xs) : tyV K "list" (.ref l) H := .inl ⟨rfl, _, h⟩
theorem i_append {l : Addr} {xs : List V} {y : V} (h : H l = some (.lst xs)) (hz : xs.length ≤ 100000) (q : ∀ H', Kp [l] H H' → H' l = some (.lst (xs ++ [y])) → Q .non H') : rAppend (.ref l) [y] H Q :=
  ⟨l, xs, y, rfl, rfl, h, small' hz, q _ (Kp.wr (by rw [h]; trivial)) upd_same⟩
/-- len, tuple, list, int -/
def rLenD (K : PySem.W.Frag) : List V → Hp → VK → Prop := fun xs H Q => ∃ p ys, xs = [.ref p] ∧ (SqL K H p ys ∨ SqT K H p ys) ∧ Q (.int ys.length) H
def rTupD (K : PySem.W.Frag) : List V → Hp → VK → Prop := fun xs H Q => ∃ p ys, xs = [.ref p] ∧ ((SqL K H p ys ∧ ∀ l, H l = none → Q (.ref l) (upd H l (.tup ys))) ∨ (SqT K H p ys ∧ Q (.ref p) H))
def rListD (K : PySem.W.Frag) : List V → Hp → VK → Prop := fun xs H Q => ∃ p ys, xs = [.ref p] ∧ (SqL K H p ys ∨ SqT K H p ys) ∧ ∀ l, H l = none → Q (.ref l) (upd H l (.lst ys))
def rIntD : List V → Hp → VK → Prop := fun xs H Q => (∃ i, xs = [.int i] ∧ Q (.int i) H) ∨ ∃ k, xs = [.bl k] ∧ Q (.int (if k then 1 else 0)) H
theorem call_lenD {X : Cx} : CallR X (.builtin "len") (rLenD X.K) := call_len_seq
theorem call_tupD {X : Cx} : CallR X (.type "tuple") (rTupD X.K) := call_tuple_of
theorem call_listD {X : Cx} : CallR X (.type "list") (rListD X.K) := call_list_of
theorem call_intD {X : Cx} : CallR X (.type "int") rIntD := call_int1
theorem i_lenT {v : V} {ds : List PyData} (h : Dt K H v (.tuple ds)) (q : Q (.int ds.length) H) : rLenD K [v] H Q := by
  obtain ⟨a, xs, rfl, h1, h2⟩ := dt_tup h
  exact ⟨a, xs, rfl, .inr h1, by rw [h2.length]; exact q⟩
theorem i_lenL {l : Addr} {xs : List V} (h : SqL K H l xs) (q : Q (.int xs.length) H) : rLenD K [.ref l] H Q := ⟨l, xs, rfl, .inl h, q⟩
theorem i_tupL {l : Addr} {xs : List V} {ds : List PyData} (h : H l = some (.lst xs)) (a : DtAll K H xs ds) (q : ∀ v H', Kp [] H H' → Dt K H' v (.tuple ds) → Q v H') : rTupD K [.ref l] H Q :=
  ⟨l, xs, rfl, .inl ⟨SqL.of h, fun p hp => q _ _ (Kp.new hp) (dt_of upd_same (a.up (M := []) (Kp.new hp)))⟩⟩
theorem i_listT {v : V} {ds : List PyData} (h : Dt K H v (.tuple ds)) (q : ∀ l xs H', Kp [] H H' → H l = none → H' l = some (.lst xs) → DtAll K H' xs ds → Q (.ref l) H') : rListD K [v] H Q := by
  obtain ⟨a, xs, rfl, h1, h2⟩ := dt_tup h
  exact ⟨a, xs, rfl, .inr h1, fun p hp => q _ _ _ (Kp.new hp) hp upd_same (h2.up (M := []) (Kp.new hp))⟩
theorem i_listL {l : Addr} {xs : List V} (h : SqL K H l xs) (q : ∀ p H', Kp [] H H' → H p = none → H' p = some (.lst xs) → Q (.ref p) H') : rListD K [.ref l] H Q :=
  ⟨l, xs, rfl, .inl h, fun p hp => q _ _ (Kp.new hp) hp upd_same⟩
theorem i_int {i : Int} (q : Q (.int i) H) : rIntD [.int i] H Q := .inl ⟨i, rfl, q⟩
theorem i_intb {k : Bool} (q : Q (.int (if k then 1 else 0)) H) : rIntD [.bl k] H Q := .inr ⟨k, rfl, q⟩
/-! ### loops -/
def ForGoT (K : PySem.W.Frag) (g : TG) (tb : TS) (D : Ends) (σ : L2.St) (x : V) (H1 : Hp) : Prop := ∃ a, x = .ref a ∧ (∃ xs, SqT K H1 a xs) ∧ ∃ W : Nat → Nat → L2.St → Hp → Prop, (∃ m, W 0 m σ H1) ∧ ∀ i m σ H, W i m σ H →
  ((Itt K a).stop i H ∧ D.nx σ H) ∨ ((Itt K a).go i H ∧ ∃ N : L2.St → Hp → Prop, (∀ σ' H', N σ' H' → ∃ m', m' < m ∧ W (i + 1) m' σ' H') ∧ ∀ x H', (Itt K a).yld i H x H' → g x σ H' fun σ2 H2 => tb { D with nx := N, ct := N, bk := D.nx } σ2 H2)
def ForGoL (K : PySem.W.Frag) (g : TG) (tb : TS) (D : Ends) (σ : L2.St) (x : V) (H1 : Hp) : Prop := ∃ a, x = .ref a ∧ (∃ xs, SqL K H1 a xs) ∧ ∃ W : Nat → Nat → L2.St → Hp → Prop, (∃ m, W 0 m σ H1) ∧ ∀ i m σ H, W i m σ H →
  ((Itl K a).stop i H ∧ D.nx σ H) ∨ ((Itl K a).go i H ∧ ∃ N : L2.St → Hp → Prop, (∀ σ' H', N σ' H' → ∃ m', m' < m ∧ W (i + 1) m' σ' H') ∧ ∀ x H', (Itl K a).yld i H x H' → g x σ H' fun σ2 H2 => tb { D with nx := N, ct := N, bk := D.nx } σ2 H2)
def ForGoR (g : TG) (tb : TS) (D : Ends) (σ : L2.St) (vs : List V) (H1 : Hp) : Prop := ∃ j : Int, vs = [.int j] ∧ -(2 ^ 62) ≤ j ∧ j < 2 ^ 62 ∧ ∃ W : Nat → Nat → L2.St → Hp → Prop, (∃ m, W 0 m σ H1) ∧ ∀ i m σ H, W i m σ H →
  ((Itr 0 j.toNat).stop i H ∧ D.nx σ H) ∨ ((Itr 0 j.toNat).go i H ∧ ∃ N : L2.St → Hp → Prop, (∀ σ' H', N σ' H' → ∃ m', m' < m ∧ W (i + 1) m' σ' H') ∧ ∀ x H', (Itr 0 j.toNat).yld i H x H' → g x σ H' fun σ2 H2 => tb { D with nx := N, ct := N, bk := D.nx } σ2 H2)
variable {g : TG} {tb : TS} {tt : TT} {vs : List Nat}
theorem i_forT (q : te σ H (ForGoT K g tb D σ)) : tFor (iTup K te) g tb D σ H := q
theorem i_forL (q : te σ H (ForGoL K g tb D σ)) : tFor (iList K te) g tb D σ H := q
theorem i_forR (q : t σ H (ForGoR g tb D σ)) : tFor (iRng1 t) g tb D σ H := q
theorem go_forT {ds : List PyData} {M : List Addr} {v : V} (h : Dt K H v (.tuple ds)) (Pv : Nat → L2.St → Hp → Prop) (h0 : Pv 0 σ H) (hk : ∀ i σ H', Pv i σ H' → Kp M H H')
    (hs : ∀ i d u σ H', ds[i]? = some d → Pv i σ H' → Dt K H' u d → g u σ H' fun σ2 H2 => tb { D with nx := Pv (i + 1), ct := Pv (i + 1), bk := D.nx } σ2 H2) (hd : ∀ σ H', Pv ds.length σ H' → D.nx σ H') : ForGoT K g tb D σ v H := by
  obtain ⟨a, xs, rfl, h1, h2⟩ := dt_tup h
  have e := h2.length
  refine ⟨a, rfl, ⟨xs, h1⟩, for_tup (xs := xs) Pv h0 (fun i σ H' _ p => (hk i σ H' p).sqt h1) (fun i x σ H' hi p => ?_) (fun σ H' p => hd σ H' (by rw [← e]; exact p))⟩
  obtain ⟨d, hd1, hd2⟩ := h2.of hi
  exact hs i d x σ H' hd1 p (hd2.up (hk i σ H' p))
theorem go_forL {xs : List V} {l : Addr} (h : SqL K H l xs) (Pv : Nat → L2.St → Hp → Prop) (h0 : Pv 0 σ H) (hk : ∀ i σ H', i ≤ xs.length → Pv i σ H' → SqL K H' l xs)
    (hs : ∀ i u σ H', xs[i]? = some u → Pv i σ H' → g u σ H' fun σ2 H2 => tb { D with nx := Pv (i + 1), ct := Pv (i + 1), bk := D.nx } σ2 H2) (hd : ∀ σ H', Pv xs.length σ H' → D.nx σ H') : ForGoL K g tb D σ (.ref l) H :=
  ⟨l, rfl, ⟨xs, h⟩, for_list (xs := xs) Pv h0 hk hs hd⟩
theorem go_forR {n : Int} {k : Nat} (hn : n = (k : Int)) (hb : k ≤ 1000000) (Pv : Nat → L2.St → Hp → Prop) (h0 : Pv 0 σ H)
    (hs : ∀ (i : Nat) σ H', i < k → Pv i σ H' → g (.int (i : Int)) σ H' fun σ2 H2 => tb { D with nx := Pv (i + 1), ct := Pv (i + 1), bk := D.nx } σ2 H2) (hd : ∀ σ H', Pv k σ H' → D.nx σ H') : ForGoR g tb D σ [.int n] H := by
  subst hn
  refine ⟨(k : Int), rfl, by omega, by omega, ?_⟩
  refine for_range (lo := 0) (n := ((k : Nat) : Int).toNat) Pv h0 (fun i σ H' hi p => ?_) (fun σ H' p => hd σ H' (by rw [Int.toNat_natCast] at p; exact p))
  have e : (0 : Int) + (i : Int) = (i : Int) := Int.zero_add _
  rw [e]
  exact hs i σ H' (by rw [Int.toNat_natCast] at hi; exact hi) p

theorem wipe_get {σ : L2.St} : ∀ {vs : List Nat} (i : Nat), (wipe σ vs)[i]? = if i ∈ vs then σ[i]?.map (fun _ => none) else σ[i]?
  | [], i => by rw [if_neg (by simp)]; rfl
  | v :: vs, i => by
    unfold wipe
    have ih := wipe_get (σ := σ) (vs := vs) i
    by_cases h : v = i
    · subst h
      rw [if_pos List.mem_cons_self, List.getElem?_set]
      rw [if_pos rfl, wipe_length]
      by_cases hl : v < σ.length
      · rw [if_pos hl, List.getElem?_eq_getElem hl]
        rfl
      · rw [if_neg hl, List.getElem?_eq_none (Nat.le_of_not_lt hl)]
        rfl
    · rw [List.getElem?_set_ne h, ih]
      by_cases hm : i ∈ vs
      · rw [if_pos hm, if_pos (List.mem_cons_of_mem _ hm)]
      · rw [if_neg hm, if_neg]
        intro z
        rcases List.mem_cons.mp z with e | e
        · exact h e.symm
        · exact hm e
theorem wipe_set {σ : L2.St} {vs : List Nat} {j : Nat} {x : Option V} (h : j ∈ vs) : wipe (σ.set j x) vs = wipe σ vs := by
  refine List.ext_getElem? fun i => ?_
  rw [wipe_get, wipe_get]
  by_cases hi : i ∈ vs
  · rw [if_pos hi, if_pos hi, List.getElem?_set]
    by_cases hj : j = i
    · subst hj
      rw [if_pos rfl]
      by_cases hl : j < σ.length
      · rw [if_pos hl, List.getElem?_eq_getElem hl]
        rfl
      · rw [if_neg hl, List.getElem?_eq_none (Nat.le_of_not_lt hl)]
    · rw [if_neg hj]
  · rw [if_neg hi, if_neg hi, List.getElem?_set_ne]
    intro e
    exact hi (e ▸ h)
theorem wipe_wipe {σ : L2.St} {vs : List Nat} : wipe (wipe σ vs) vs = wipe σ vs := by
  refine List.ext_getElem? fun i => ?_
  rw [wipe_get, wipe_get]
  by_cases hi : i ∈ vs
  · rw [if_pos hi, if_pos hi, Option.map_map]
    rfl
  · rw [if_neg hi, if_neg hi]
theorem wipe1 {σ : L2.St} {vs : List Nat} {j : Nat} {x : Option V} (h : j ∈ vs) : wipe ((wipe σ vs).set j x) vs = wipe σ vs := by rw [wipe_set h, wipe_wipe]
theorem wipe2 {σ : L2.St} {vs : List Nat} {i j : Nat} {x y : Option V} (h : i ∈ vs) (h2 : j ∈ vs) : wipe (((wipe σ vs).set i x).set j y) vs = wipe σ vs := by rw [wipe_set h2, wipe1 h]
/-! ### comprehensions -/
def LcGo (J : It) (g : TG) (tt : TT) (te : TE) (vs : List Nat) (σ : L2.St) (Q : VK) (H1 : Hp) : Prop := ∀ D, H1 D = none → ∃ W : Nat → Nat → Hp → Prop, (∃ m, W 0 m (upd H1 D (.lst []))) ∧ ∀ i m H, W i m H →
  (J.stop i H ∧ Q (.ref D) H) ∨ (J.go i H ∧ ∃ Nx : Hp → Prop, (∀ H', Nx H' → ∃ m', m' < m ∧ W (i + 1) m' H') ∧ ∀ x H', J.yld i H x H' → g x (wipe σ vs) H' fun σ2 H2 => wipe σ2 vs = wipe σ vs ∧ tt σ2 H2 fun b H3 =>
    if b = true then te σ2 H3 fun y H4 => ∃ acc, H4 D = some (.lst acc) ∧ acc.length < sizeLine ∧ Nx (upd H4 D (.lst (acc ++ [y]))) else Nx H3)
def LcGoT (K : PySem.W.Frag) (g : TG) (tt : TT) (te : TE) (vs : List Nat) (σ : L2.St) (Q : VK) (x : V) (H1 : Hp) : Prop := ∃ a, x = .ref a ∧ (∃ xs, SqT K H1 a xs) ∧ LcGo (Itt K a) g tt te vs σ Q H1
def LcGoL (K : PySem.W.Frag) (g : TG) (tt : TT) (te : TE) (vs : List Nat) (σ : L2.St) (Q : VK) (x : V) (H1 : Hp) : Prop := ∃ a, x = .ref a ∧ (∃ xs, SqL K H1 a xs) ∧ LcGo (Itl K a) g tt te vs σ Q H1
def LcGoR (g : TG) (tt : TT) (te : TE) (vs : List Nat) (σ : L2.St) (Q : VK) (xs : List V) (H1 : Hp) : Prop := ∃ j : Int, xs = [.int j] ∧ -(2 ^ 62) ≤ j ∧ j < 2 ^ 62 ∧ LcGo (Itr 0 j.toNat) g tt te vs σ Q H1
theorem i_lcT {tl : TE} (q : tl σ H (LcGoT K g tt te vs σ Q)) : tLc (iTup K tl) g tt te vs σ H Q := q
theorem i_lcL {tl : TE} (q : tl σ H (LcGoL K g tt te vs σ Q)) : tLc (iList K tl) g tt te vs σ H Q := q
theorem i_lcR (q : t σ H (LcGoR g tt te vs σ Q)) : tLc (iRng1 t) g tt te vs σ H Q := q
/-- what one turn of a comprehension is asked: it keeps y and reaches R1, or leaves it out and reaches R0 -/
def LcTurn (g : TG) (tt : TT) (te : TE) (vs : List Nat) (σ : L2.St) (u : V) (H1 : Hp) (R1 : V → Hp → Prop) (R0 : Hp → Prop) : Prop :=
  g u (wipe σ vs) H1 fun σ2 H2 => wipe σ2 vs = wipe σ vs ∧ tt σ2 H2 fun b H3 => if b = true then te σ2 H3 R1 else R0 H3
/-- any walk of n turns: item i is u where Y i u holds; the invariant P of turn, items so far, heap -/
theorem go_lc {J : It} {n : Nat} {M : List Addr} (hw : ∀ i H', i < n → Kp M H H' → J.go i H') (hy : ∀ i H' x H2, i < n → Kp M H H' → J.yld i H' x H2 → H2 = H') (hz : ∀ H', Kp M H H' → J.stop n H') (hn : n ≤ 100000)
    (P : Nat → List V → Hp → Prop) (st : ∀ i acc H1 H2 D, H D = none → Kp [D] H1 H2 → P i acc H1 → P i acc H2) (h0 : P 0 [] H)
    (hs : ∀ i u acc H1 D, i < n → J.yld i H1 u H1 → Kp M H H1 → H D = none → H1 D = some (.lst acc) → acc.length ≤ i → P i acc H1 →
      ∀ (R1 : V → Hp → Prop) (R0 : Hp → Prop), (∀ y H3, H3 D = some (.lst acc) → Kp M H H3 → P (i + 1) (acc ++ [y]) H3 → R1 y H3) → (∀ H3, H3 D = some (.lst acc) → Kp M H H3 → P (i + 1) acc H3 → R0 H3) → LcTurn g tt te vs σ u H1 R1 R0)
    (q : ∀ l H2 acc, Kp M H H2 → H l = none → H2 l = some (.lst acc) → acc.length ≤ n → P n acc H2 → Q (.ref l) H2) : LcGo J g tt te vs σ Q H := by
  intro D hD
  refine ⟨fun i m H' => m = n - i ∧ i ≤ n ∧ Kp M H H' ∧ ∃ acc, H' D = some (.lst acc) ∧ acc.length ≤ i ∧ P i acc H', ⟨n, by omega, Nat.zero_le _, Kp.new hD, [], upd_same, Nat.le_refl _, st _ _ _ _ _ hD (Kp.new hD) h0⟩, ?_⟩
  rintro i m H1 ⟨rfl, hi, k1, acc, hacc, hlen, p⟩
  by_cases hlt : i < n
  · refine .inr ⟨hw i H1 hlt k1, fun H' => i + 1 ≤ n ∧ Kp M H H' ∧ ∃ acc, H' D = some (.lst acc) ∧ acc.length ≤ i + 1 ∧ P (i + 1) acc H', fun H' p' => ⟨n - (i + 1), by omega, rfl, p'⟩, fun x H' y => ?_⟩
    obtain rfl := hy i H1 x H' hlt k1 y
    refine hs i x acc H' D hlt y k1 hD hacc hlen p _ _ (fun y2 H3 h3 k3 p3 => ?_) (fun H3 h3 k3 p3 => ?_)
    · refine ⟨acc, h3, small' (by omega), hlt, ?_, acc ++ [y2], upd_same, by rw [List.length_append, List.length_singleton]; omega, st _ _ _ _ _ hD (Kp.wr (by rw [h3]; trivial)) p3⟩
      exact k3.fresh (Kp.wr (by rw [h3]; trivial)) fun z hz => .inr (by rw [List.mem_singleton.mp hz]; exact hD)
    · exact ⟨hlt, k3, acc, h3, by omega, p3⟩
  · obtain rfl : i = n := by omega
    exact .inl ⟨hz H1 k1, q D H1 acc k1 hD hacc hlen p⟩
theorem go_lcT {ds : List PyData} {M : List Addr} {v : V} (h : Dt K H v (.tuple ds)) (hn : ds.length ≤ 100000)
    (P : Nat → List V → Hp → Prop) (st : ∀ i acc H1 H2 D, H D = none → Kp [D] H1 H2 → P i acc H1 → P i acc H2) (h0 : P 0 [] H)
    (hs : ∀ i d u acc H1 D, ds[i]? = some d → Dt K H1 u d → Kp M H H1 → H D = none → H1 D = some (.lst acc) → acc.length ≤ i → P i acc H1 →
      ∀ (R1 : V → Hp → Prop) (R0 : Hp → Prop), (∀ y H3, H3 D = some (.lst acc) → Kp M H H3 → P (i + 1) (acc ++ [y]) H3 → R1 y H3) → (∀ H3, H3 D = some (.lst acc) → Kp M H H3 → P (i + 1) acc H3 → R0 H3) → LcTurn g tt te vs σ u H1 R1 R0)
    (q : ∀ l H2 acc, Kp M H H2 → H l = none → H2 l = some (.lst acc) → acc.length ≤ ds.length → P ds.length acc H2 → Q (.ref l) H2) : LcGoT K g tt te vs σ Q v H := by
  obtain ⟨a, xs, rfl, h1, h2⟩ := dt_tup h
  have e := h2.length
  refine ⟨a, rfl, ⟨xs, h1⟩, go_lc (M := M) (n := ds.length) (fun i H' hi k => ?_) (fun i H' x H2 hi k y => y.1) (fun H' k => ⟨xs, k.sqt h1, by omega⟩) hn P st h0 (fun i u acc H1 D hi y k hD hacc hlen p => ?_) q⟩
  · have hi' : i < xs.length := by omega
    exact ⟨xs, xs[i], k.sqt h1, List.getElem?_eq_getElem hi'⟩
  · obtain ⟨d, hd1, hd2⟩ := h2.of (y.2 xs (k.sqt h1))
    exact hs i d u acc H1 D hd1 (hd2.up k) k hD hacc hlen p
theorem go_lcL {xs : List V} {M : List Addr} {l : Addr} (h : ∀ H', Kp M H H' → SqL K H' l xs) (hn : xs.length ≤ 100000)
    (P : Nat → List V → Hp → Prop) (st : ∀ i acc H1 H2 D, H D = none → Kp [D] H1 H2 → P i acc H1 → P i acc H2) (h0 : P 0 [] H)
    (hs : ∀ i u acc H1 D, xs[i]? = some u → Kp M H H1 → H D = none → H1 D = some (.lst acc) → acc.length ≤ i → P i acc H1 →
      ∀ (R1 : V → Hp → Prop) (R0 : Hp → Prop), (∀ y H3, H3 D = some (.lst acc) → Kp M H H3 → P (i + 1) (acc ++ [y]) H3 → R1 y H3) → (∀ H3, H3 D = some (.lst acc) → Kp M H H3 → P (i + 1) acc H3 → R0 H3) → LcTurn g tt te vs σ u H1 R1 R0)
    (q : ∀ l H2 acc, Kp M H H2 → H l = none → H2 l = some (.lst acc) → acc.length ≤ xs.length → P xs.length acc H2 → Q (.ref l) H2) : LcGoL K g tt te vs σ Q (.ref l) H := by
  refine ⟨l, rfl, ⟨xs, h H Kp.refl⟩, go_lc (M := M) (n := xs.length) (fun i H' hi k => ⟨xs, xs[i], h H' k, List.getElem?_eq_getElem hi⟩) (fun i H' x H2 hi k y => y.1) (fun H' k => ⟨xs, h H' k, Nat.le_refl _⟩) hn P st h0 (fun i u acc H1 D hi y k hD hacc hlen p => ?_) q⟩
  exact hs i u acc H1 D (y.2 xs (h H1 k)) k hD hacc hlen p
theorem go_lcR {n : Int} {k : Nat} {M : List Addr} (hn : n = (k : Int)) (hb : k ≤ 100000)
    (P : Nat → List V → Hp → Prop) (st : ∀ i acc H1 H2 D, H D = none → Kp [D] H1 H2 → P i acc H1 → P i acc H2) (h0 : P 0 [] H)
    (hs : ∀ (i : Nat) acc H1 D, i < k → Kp M H H1 → H D = none → H1 D = some (.lst acc) → acc.length ≤ i → P i acc H1 →
      ∀ (R1 : V → Hp → Prop) (R0 : Hp → Prop), (∀ y H3, H3 D = some (.lst acc) → Kp M H H3 → P (i + 1) (acc ++ [y]) H3 → R1 y H3) → (∀ H3, H3 D = some (.lst acc) → Kp M H H3 → P (i + 1) acc H3 → R0 H3) → LcTurn g tt te vs σ (.int (i : Int)) H1 R1 R0)
    (q : ∀ l H2 acc, Kp M H H2 → H l = none → H2 l = some (.lst acc) → acc.length ≤ k → P k acc H2 → Q (.ref l) H2) : LcGoR g tt te vs σ Q [.int n] H := by
  subst hn
  refine ⟨(k : Int), rfl, by omega, by omega, ?_⟩
  rw [Int.toNat_natCast]
  refine go_lc (M := M) (n := k) (fun i H' hi _ => hi) (fun i H' x H2 hi k y => y.1) (fun H' _ => Nat.le_refl _) hb P st h0 (fun i u acc H1 D hi y k hD hacc hlen p => ?_) q
  have e : u = .int (i : Int) := by
    rw [y.2]
    exact congrArg V.int (Int.zero_add _)
  rw [e]
  exact hs i acc H1 D hi k hD hacc hlen p
theorem i_lcturn {u : V} {R1 : V → Hp → Prop} {R0 : Hp → Prop} (q : g u (wipe σ vs) H fun σ2 H2 => wipe σ2 vs = wipe σ vs ∧ tt σ2 H2 fun b H3 => if b = true then te σ2 H3 R1 else R0 H3) : LcTurn g tt te vs σ u H R1 R0 := q
/-- a plain element -/
theorem t_yes {j : Nat} {u : V} {σ' : L2.St} {R1 : V → Hp → Prop} {R0 : Hp → Prop} (hw : j ∈ vs) (e : (wipe σ vs).set j (some u) = σ') (q : te σ' H R1) : LcTurn (gName j) tYes te vs σ u H R1 R0 := by
  subst e
  refine ⟨wipe1 hw, ?_⟩
  show if true = true then te ((wipe σ vs).set j (some u)) H R1 else R0 H
  rw [if_pos rfl]
  exact q
/-- .. with a test -/
theorem t_test {j : Nat} {u : V} {σ' : L2.St} {R1 : V → Hp → Prop} {R0 : Hp → Prop} (hw : j ∈ vs) (e : (wipe σ vs).set j (some u) = σ') (q : tt σ' H fun b H3 => if b = true then te σ' H3 R1 else R0 H3) : LcTurn (gName j) tt te vs σ u H R1 R0 := by
  subst e
  exact ⟨wipe1 hw, q⟩
/-- a, b = t -/
theorem i_gtup2 {i j : Nat} {v : V} {d e : PyData} {σ' : V → V → L2.St} {Q : L2.St → Hp → Prop} (h : Dt K H v (.tuple [d, e])) (es : ∀ u z, (σ.set i (some u)).set j (some z) = σ' u z) (q : ∀ u z, Dt K H u d → Dt K H z e → Q (σ' u z) H) : gTup K 2 (gCons (gName i) (gCons (gName j) gNil)) v σ H Q := by
  obtain ⟨a, xs, rfl, h1, h2⟩ := dt_tup h
  cases h2 with
  | cons a1 t1 =>
    cases t1 with
    | cons a2 t2 =>
      cases t2
      exact ⟨a, _, rfl, h1, rfl, _, _, rfl, _, _, rfl, rfl, by rw [es]; exact q _ _ a1 a2⟩
theorem i_gtup4 {i j k l : Nat} {v : V} {d e f g : PyData} {σ' : V → V → V → V → L2.St} {Q : L2.St → Hp → Prop} (h : Dt K H v (.tuple [d, e, f, g])) (es : ∀ u z y x, (((σ.set i (some u)).set j (some z)).set k (some y)).set l (some x) = σ' u z y x)
    (q : ∀ u z y x, Dt K H u d → Dt K H z e → Dt K H y f → Dt K H x g → Q (σ' u z y x) H) :
    gTup K 4 (gCons (gName i) (gCons (gName j) (gCons (gName k) (gCons (gName l) gNil)))) v σ H Q := by
  obtain ⟨a, xs, rfl, h1, h2⟩ := dt_tup h
  cases h2 with
  | cons a1 t1 =>
    cases t1 with
    | cons a2 t2 =>
      cases t2 with
      | cons a3 t3 =>
        cases t3 with
        | cons a4 t4 =>
          cases t4
          exact ⟨a, _, rfl, h1, rfl, _, _, rfl, _, _, rfl, _, _, rfl, _, _, rfl, rfl, by rw [es]; exact q _ _ _ _ a1 a2 a3 a4⟩
theorem t_yes2 {i j : Nat} {v : V} {d e : PyData} {σ' : V → V → L2.St} {R1 : V → Hp → Prop} {R0 : Hp → Prop} (h : Dt K H v (.tuple [d, e])) (hi : i ∈ vs) (hj : j ∈ vs) (es : ∀ u z, ((wipe σ vs).set i (some u)).set j (some z) = σ' u z) (q : ∀ u z, Dt K H u d → Dt K H z e → te (σ' u z) H R1) :
    LcTurn (gTup K 2 (gCons (gName i) (gCons (gName j) gNil))) tYes te vs σ v H R1 R0 := by
  refine i_gtup2 (σ' := fun u z => ((wipe σ vs).set i (some u)).set j (some z)) h (fun _ _ => rfl) fun u z hu hz => ⟨wipe2 hi hj, ?_⟩
  show if true = true then te (((wipe σ vs).set i (some u)).set j (some z)) H R1 else R0 H
  rw [if_pos rfl, es]
  exact q u z hu hz
end

/-! ### calls -/
structure FG (P : Program) (w : World) (K : PySem.W.Frag) (mg : Str → Option Value) (base : Heap) (k : Nat) (x : Str) (ps : List Str) (sp : Sp) : Prop where
  ex : ∃ f fd, FnOk P w K mg base CX0 k f fd ps sp ∧ mg x = some (.ref f) ∧ PySem.W.keepIn K (.ref f) = true ∧ Binds K fd ps []
theorem FG.mono {P : Program} {w : World} {K : PySem.W.Frag} {mg : Str → Option Value} {base : Heap} {j k : Nat} {x : Str} {ps : List Str} {sp : Sp} (F : FG P w K mg base j x ps sp) (h : j ≤ k) : FG P w K mg base k x ps sp :=
  let ⟨f, fd, a, b, c, d⟩ := F.ex
  ⟨f, fd, a.mono h, b, c, d⟩
/-- a def that stands in the text, with how its arguments bind -/
structure FT (K : PySem.W.Frag) (mg : Str → Option Value) (x : Str) (st : Stmt) (ps : List Str) : Prop where
  ex : ∃ f fd, Fun K x x st f fd ∧ mg x = some (.ref f) ∧ Binds K fd ps []
theorem FT.ok {P : Program} {w : World} {K : PySem.W.Frag} {mg : Str → Option Value} {base : Heap} {x : Str} {st : Stmt} {N ps : List Str} {k : Nat} {sp : Sp} (T : FT K mg x st ps) (S : FnScope N ps (defScope st)) (len : ∀ vs H Q E, sp vs H Q E → vs.length = ps.length)
    (hbody : ∀ (f : Addr) (cdv : Value) (A : Around) (outer : List Env) (s : Shared) (H : Hp) (vs : List V) (Q : VK) (E : XK), Room k (A.deeper (envOfC x (defScope st) s.heap.objs.size f cdv)) → sp vs H Q E →
      ∃ t, PSs (cxOf CX0 P w K mg base N x (defScope st) f cdv A outer s H E).nox (defBody st) t ∧ t { nx := fun _ H' => Q .non H', rt := Q } (start N vs) H) : FG P w K mg base (k + 1) x ps sp := by
  obtain ⟨f, fd, F, m, b⟩ := T.ex
  exact ⟨f, fd, F.ok S len (hbody f), m, F.kp, b⟩
section
variable {X : Cx} {k : Nat} {ps : List Str} {sp : Sp} {E : XK} {x : Str} {p pos apos : Pos} {e o : Expr} {es : List Expr} {ta : TE} {t : TA}
theorem pe_cg (G : FG X.prog X.w X.K X.mg X.base k x ps sp) (hr : Room k X.A) (hg : Gl X x)
    (ha : PA X (e :: es) t) (hdb : (x == ("__debug__" : Str)) = false := by decide) (he : starEach (e :: es) X.env = (false, eval e X.env) :: starEach es X.env := by rfl) (hpl : (backTo pos (starEach es X.env)).any (·.1) = false := by rfl) :
    PE X (.Call (.Name x p) (e :: es) [] pos) (tCall sp [] E0 t) := by
  obtain ⟨f, fd, F, m, kp, b⟩ := G.ex
  exact pe_call F hr hg m kp b .nil pass0 ha hdb he hpl
/-- a module's int -/
theorem pe_gc {i : Int} (hg : Gl X x) (hm : ∃ t, X.mg x = some (.int i t)) (hd : (x == ("__debug__" : Str)) = false := by decide) : PE X (.Name x pos) (tC (.int i)) := by
  obtain ⟨t, hm⟩ := hm
  exact pe_glob hg hm ⟨t, rfl⟩ hd
end
/-- the built-ins and constants of the text -/
structure Tx (mg : Str → Option Value) : Prop where
  b_len : mg "len" = none
  b_tuple : mg "tuple" = none
  b_range : mg "range" = none
  b_int : mg "int" = none
  b_list : mg "list" = none
  b_set : mg "set" = none
  b_sorted : mg "sorted" = none
  b_all : mg "all" = none
  b_any : mg "any" = none
  b_enumerate : mg "enumerate" = none
  c_READ : ∃ t, mg "READ" = some (.int (-1) t)
  c_NOTHING : ∃ t, mg "NOTHING" = some (.int (-2) t)
def topS (i : Nat) : Stmt := PySem.Challenge.pw_anyvalues_k58_whole_needed_values_are_en.main.body.getD i (.Pass ⟨0, 0, 0, 0⟩)
end K58
/-! The machines in plain Lean, and what they do. -/
namespace K58
inductive Cond where
  | tt | ff
  | less (a b : Int) | same (a b : Int) | empty (a : Int)
  | not (c : Cond) | all (cs : List Cond) | any (cs : List Cond)
structure Case where
  cond : Cond
  moves : List Int
  says : List (Int × Int)
  next : Nat
structure Mach where
  tags : Nat
  regs : Nat
  steps : List (List (List Case))
abbrev Held := List (Option Int)
abbrev Content := Nat × Held

/-- the value at a source -/
def valAt (src v : Int) (held : Held) : Option Int :=
  if src = -1 then some v else if src = -2 then none else (held[src.toNat]?).getD none
/-- a place or source for r registers -/
def srcOk (r : Nat) (s : Int) : Prop := s = -1 ∨ s = -2 ∨ (0 ≤ s ∧ s < r)
def placeOk (r : Nat) (s : Int) : Prop := s = -1 ∨ (0 ≤ s ∧ s < r)
theorem placeOk.src {r : Nat} {s : Int} (h : placeOk r s) : srcOk r s := h.elim .inl fun h => .inr (.inr h)
def isNone : Option Int → Bool
  | none => true
  | some _ => false
def lessO : Option Int → Option Int → Bool
  | some a, some b => decide (a < b)
  | _, _ => false
def sameO : Option Int → Option Int → Bool
  | some a, some b => decide (a = b)
  | _, _ => false
mutual
def holds (v : Int) (h : Held) : Cond → Bool
  | .tt => true
  | .ff => false
  | .less a b => lessO (valAt a v h) (valAt b v h)
  | .same a b => sameO (valAt a v h) (valAt b v h)
  | .empty a => isNone (valAt a v h)
  | .not c => !holds v h c
  | .all cs => holdsAll v h cs
  | .any cs => holdsAny v h cs
def holdsAll (v : Int) (h : Held) : List Cond → Bool
  | [] => true
  | c :: cs => holds v h c && holdsAll v h cs
def holdsAny (v : Int) (h : Held) : List Cond → Bool
  | [] => false
  | c :: cs => holds v h c || holdsAny v h cs
end
mutual
/-- places right, depth below n -/
def Cond.ok (r : Nat) : Nat → Cond → Prop
  | 0, _ => False
  | _ + 1, .tt => True
  | _ + 1, .ff => True
  | _ + 1, .less a b => placeOk r a ∧ placeOk r b
  | _ + 1, .same a b => placeOk r a ∧ placeOk r b
  | _ + 1, .empty a => placeOk r a
  | n + 1, .not c => Cond.ok r n c
  | n + 1, .all cs => Cond.okAll r n cs ∧ cs.length ≤ 60
  | n + 1, .any cs => Cond.okAll r n cs ∧ cs.length ≤ 60
def Cond.okAll (r : Nat) : Nat → List Cond → Prop
  | _, [] => True
  | n, c :: cs => Cond.ok r n c ∧ Cond.okAll r n cs
end
theorem Cond.okAll_mem {r n : Nat} : ∀ {cs : List Cond} {c : Cond}, Cond.okAll r n cs → c ∈ cs → Cond.ok r n c
  | [], _, _, h => nomatch h
  | x :: xs, c, h, hm => by
    rw [Cond.okAll] at h
    rcases List.mem_cons.mp hm with e | hm
    · rw [e]; exact h.1
    · exact Cond.okAll_mem h.2 hm
theorem Cond.okAll_of {r n : Nat} : ∀ {cs : List Cond}, (∀ c ∈ cs, Cond.ok r n c) → Cond.okAll r n cs
  | [], _ => by rw [Cond.okAll]; trivial
  | x :: xs, h => by
    rw [Cond.okAll]
    exact ⟨h x List.mem_cons_self, Cond.okAll_of fun c hc => h c (List.mem_cons_of_mem _ hc)⟩
theorem Cond.ok_mono {r : Nat} : ∀ {n m : Nat} {c : Cond}, n ≤ m → Cond.ok r n c → Cond.ok r m c
  | 0, _, _, _, h => by rw [Cond.ok] at h; exact h.elim
  | n + 1, 0, _, l, _ => by omega
  | n + 1, m + 1, .tt, _, _ => by rw [Cond.ok]; trivial
  | n + 1, m + 1, .ff, _, _ => by rw [Cond.ok]; trivial
  | n + 1, m + 1, .less _ _, _, h => by rw [Cond.ok] at h ⊢; exact h
  | n + 1, m + 1, .same _ _, _, h => by rw [Cond.ok] at h ⊢; exact h
  | n + 1, m + 1, .empty _, _, h => by rw [Cond.ok] at h ⊢; exact h
  | n + 1, m + 1, .not c, l, h => by rw [Cond.ok] at h ⊢; exact Cond.ok_mono (by omega) h
  | n + 1, m + 1, .all cs, l, h => by
    rw [Cond.ok] at h ⊢
    exact ⟨Cond.okAll_of fun c hc => Cond.ok_mono (by omega) (Cond.okAll_mem h.1 hc), h.2⟩
  | n + 1, m + 1, .any cs, l, h => by
    rw [Cond.ok] at h ⊢
    exact ⟨Cond.okAll_of fun c hc => Cond.ok_mono (by omega) (Cond.okAll_mem h.1 hc), h.2⟩

/-- the number of the case that is carried out -/
def caseFor (v : Int) (h : Held) : List Case → Option Nat
  | [] => none
  | c :: cs => if holds v h c.cond then some 0 else (caseFor v h cs).map (· + 1)
abbrev Answer := List (Int × Option Int)
def goCase (c : Case) (v : Int) (h : Held) : Content × Answer :=
  ((c.next, c.moves.map fun s => valAt s v h), c.says.map fun p => (p.1, valAt p.2 v h))
def readC (cs : List Case) (s : Nat) (v : Int) (h : Held) : Content × Answer :=
  match caseFor v h cs with
  | none => ((s, h), [])
  | some k => match cs[k]? with
    | none => ((s, h), [])
    | some c => goCase c v h
/-- the cases for a standing and a tag -/
def Mach.cases (m : Mach) (s t : Nat) : List Case := ((m.steps[s]?).getD [])[t]?.getD []
def Mach.read (m : Mach) (c : Content) (t : Nat) (v : Int) : Content × Answer := readC (m.cases c.1 t) c.1 v c.2
def Mach.answers (m : Mach) (c : Content) : List (Nat × Int) → List Answer
  | [] => []
  | e :: r => (m.read c e.1 e.2).2 :: m.answers (m.read c e.1 e.2).1 r

structure Case.Ok (r S : Nat) (c : Case) : Prop where
  cond : Cond.ok r 3 c.cond
  moves : ∀ s ∈ c.moves, srcOk r s
  len : c.moves.length = r
  says : ∀ p ∈ c.says, srcOk r p.2
  few : c.says.length ≤ 60
  next : c.next < S
structure Mach.Ok (m : Mach) : Prop where
  tags : 1 ≤ m.tags ∧ m.tags ≤ 60
  regs : m.regs ≤ 2
  num : 1 ≤ m.steps.length ∧ m.steps.length ≤ 3
  rows : ∀ row ∈ m.steps, row.length = m.tags
  css : ∀ row ∈ m.steps, ∀ cs ∈ row, cs.length ≤ 60 ∧ ∀ c ∈ cs, c.Ok m.regs m.steps.length
structure Mach.In (m : Mach) (c : Content) : Prop where
  st : c.1 < m.steps.length
  len : c.2.length = m.regs

theorem caseFor_lt {v : Int} {h : Held} : ∀ {cs : List Case} {k : Nat}, caseFor v h cs = some k → ∃ c, cs[k]? = some c ∧ holds v h c.cond = true
  | [], _, e => by simp [caseFor] at e
  | c :: cs, k, e => by
    unfold caseFor at e
    by_cases hc : holds v h c.cond = true
    · rw [if_pos hc] at e
      cases e
      exact ⟨c, rfl, hc⟩
    · rw [if_neg hc] at e
      obtain ⟨j, hj, rfl⟩ := Option.map_eq_some_iff.mp e
      obtain ⟨d, hd, hh⟩ := caseFor_lt hj
      exact ⟨d, by simpa using hd, hh⟩
theorem Mach.Ok.row {m : Mach} (o : m.Ok) {s t : Nat} (hs : s < m.steps.length) (ht : t < m.tags) : ∃ row cs, m.steps[s]? = some row ∧ row[t]? = some cs ∧ m.cases s t = cs ∧ cs.length ≤ 60 ∧ ∀ c ∈ cs, c.Ok m.regs m.steps.length := by
  have hr : m.steps[s]? = some m.steps[s] := List.getElem?_eq_getElem hs
  have hl : t < (m.steps[s]).length := by rw [o.rows _ (List.getElem_mem hs)]; exact ht
  refine ⟨m.steps[s], (m.steps[s])[t], hr, List.getElem?_eq_getElem hl, ?_, o.css _ (List.getElem_mem hs) _ (List.getElem_mem hl)⟩
  unfold Mach.cases
  rw [hr, Option.getD_some, List.getElem?_eq_getElem hl, Option.getD_some]
theorem Mach.Ok.read_in {m : Mach} (o : m.Ok) {c : Content} (i : m.In c) {t : Nat} (ht : t < m.tags) (v : Int) : m.In (m.read c t v).1 := by
  obtain ⟨row, cs, _, _, e, _, hok⟩ := o.row i.st ht
  unfold Mach.read readC
  rw [e]
  cases hk : caseFor v c.2 cs with
  | none => exact i
  | some k =>
    obtain ⟨d, hd, _⟩ := caseFor_lt hk
    have dk := hok d (List.mem_of_getElem? hd)
    simp only [hd]
    exact ⟨dk.next, by show (d.moves.map _).length = _; rw [List.length_map]; exact dk.len⟩
end K58
/-! Orders: ranks, joint types, and why a closed set of joint types never parts. -/
namespace K58
/-! ### lists without doubles -/
theorem nodup_len {α : Type} [DecidableEq α] : ∀ {l m : List α}, l.Nodup → (∀ x ∈ l, x ∈ m) → l.length ≤ m.length
  | [], _, _, _ => Nat.zero_le _
  | x :: l, m, h, s => by
    rw [List.nodup_cons] at h
    have hm : x ∈ m := s x List.mem_cons_self
    have ih := nodup_len (l := l) (m := m.erase x) h.2 fun y hy => by
      have ne : y ≠ x := fun e => h.1 (e ▸ hy)
      exact (List.mem_erase_of_ne ne).mpr (s y (List.mem_cons_of_mem _ hy))
    rw [List.length_erase_of_mem hm] at ih
    have : 0 < m.length := List.length_pos_of_mem hm
    rw [List.length_cons]
    omega
def dd : List Int → List Int
  | [] => []
  | x :: xs => if x ∈ xs then dd xs else x :: dd xs
theorem mem_dd {x : Int} : ∀ {xs : List Int}, x ∈ dd xs ↔ x ∈ xs
  | [] => Iff.rfl
  | y :: ys => by
    unfold dd
    by_cases h : y ∈ ys
    · rw [if_pos h, mem_dd]
      exact ⟨List.mem_cons_of_mem _, fun z => (List.mem_cons.mp z).elim (fun e => e ▸ h) id⟩
    · rw [if_neg h, List.mem_cons, List.mem_cons, mem_dd]
theorem dd_nodup : ∀ {xs : List Int}, (dd xs).Nodup
  | [] => List.nodup_nil
  | y :: ys => by
    unfold dd
    by_cases h : y ∈ ys
    · rw [if_pos h]; exact dd_nodup
    · rw [if_neg h, List.nodup_cons]
      exact ⟨fun z => h (mem_dd.mp z), dd_nodup⟩
theorem dd_len : ∀ {xs : List Int}, (dd xs).length ≤ xs.length
  | [] => Nat.le_refl _
  | y :: ys => by
    unfold dd
    have ih := dd_len (xs := ys)
    by_cases h : y ∈ ys
    · rw [if_pos h, List.length_cons]; omega
    · rw [if_neg h, List.length_cons, List.length_cons]; omega
def below (xs : List Int) (x : Int) : Nat := (xs.filter fun y => decide (y < x)).length
theorem below_same {l m : List Int} (hl : l.Nodup) (hm : m.Nodup) (h : ∀ k, k ∈ l ↔ k ∈ m) (x : Int) : below l x = below m x := by
  have one : ∀ {l m : List Int}, l.Nodup → (∀ k, k ∈ l ↔ k ∈ m) → below l x ≤ below m x := fun {l m} hl h => by
    unfold below
    refine nodup_len (hl.filter _) fun y hy => ?_
    rw [List.mem_filter] at hy ⊢
    exact ⟨(h y).mp hy.1, hy.2⟩
  exact Nat.le_antisymm (one hl h) (one hm fun k => (h k).symm)
theorem len_same {l m : List Int} (hl : l.Nodup) (hm : m.Nodup) (h : ∀ k, k ∈ l ↔ k ∈ m) : l.length = m.length :=
  Nat.le_antisymm (nodup_len hl fun x hx => (h x).mp hx) (nodup_len hm fun x hx => (h x).mpr hx)
theorem below_sorted : ∀ {ns : List Int} {j : Nat} {x : Int}, ns.Pairwise (· < ·) → ns[j]? = some x → below ns x = j
  | [], _, _, _, e => by simp at e
  | y :: ys, 0, x, hp, e => by
    rw [List.getElem?_cons_zero] at e
    cases e
    rw [List.pairwise_cons] at hp
    unfold below
    have e0 : (y :: ys).filter (fun z => decide (z < y)) = [] := by
      rw [List.filter_eq_nil_iff]
      intro z hz
      rw [decide_eq_true_eq]
      rcases List.mem_cons.mp hz with e | e
      · omega
      · have := hp.1 z e; omega
    rw [e0]
    rfl
  | y :: ys, j + 1, x, hp, e => by
    rw [List.getElem?_cons_succ] at e
    rw [List.pairwise_cons] at hp
    have ih := below_sorted hp.2 e
    have hy : y < x := hp.1 x (List.mem_of_getElem? e)
    unfold below at ih ⊢
    rw [List.filter_cons, if_pos (decide_eq_true hy), List.length_cons, ih]
theorem below_le {l : List Int} {x : Int} : below l x ≤ l.length := List.length_filter_le _ _
theorem below_lt {l : List Int} {x : Int} (h : x ∈ l) : below l x < l.length := by
  unfold below
  refine Nat.lt_of_le_of_ne (List.length_filter_le _ _) fun e => ?_
  have q := List.length_filter_eq_length_iff.mp e x h
  rw [decide_eq_true_eq] at q
  omega
theorem below_mono {l : List Int} {x y : Int} (hx : x ∈ l) (h : x < y) : below l x < below l y := by
  induction l with
  | nil => cases hx
  | cons z l ih =>
    unfold below at ih ⊢
    rw [List.filter_cons, List.filter_cons]
    have le : (l.filter fun w => decide (w < x)).length ≤ (l.filter fun w => decide (w < y)).length := by
      have : ∀ m : List Int, (m.filter fun w => decide (w < x)).length ≤ (m.filter fun w => decide (w < y)).length := fun m => by
        induction m with
        | nil => exact Nat.le_refl _
        | cons a m ih =>
          rw [List.filter_cons, List.filter_cons]
          by_cases h1 : a < x
          · rw [if_pos (decide_eq_true h1), if_pos (decide_eq_true (by omega : a < y)), List.length_cons, List.length_cons]; omega
          · rw [if_neg (by rw [decide_eq_true_eq]; exact h1)]
            split
            · rw [List.length_cons]; omega
            · exact ih
      exact this l
    rcases List.mem_cons.mp hx with e | e
    · subst e
      rw [if_neg (by rw [decide_eq_true_eq]; omega), if_pos (decide_eq_true h), List.length_cons]
      omega
    · have ih := ih e
      by_cases h1 : z < x
      · rw [if_pos (decide_eq_true h1), if_pos (decide_eq_true (by omega : z < y)), List.length_cons, List.length_cons]; omega
      · rw [if_neg (by rw [decide_eq_true_eq]; exact h1)]
        split
        · rw [List.length_cons]; omega
        · exact ih
theorem below_le_of {l : List Int} {x y : Int} (h : x ≤ y) : below l x ≤ below l y := by
  unfold below
  induction l with
  | nil => exact Nat.le_refl _
  | cons a m ih =>
    rw [List.filter_cons, List.filter_cons]
    by_cases h1 : a < x
    · rw [if_pos (decide_eq_true h1), if_pos (decide_eq_true (by omega : a < y)), List.length_cons, List.length_cons]; omega
    · rw [if_neg (by rw [decide_eq_true_eq]; exact h1)]
      split
      · rw [List.length_cons]; omega
      · exact ih

/-! ### ranks -/
def vals (h : Held) : List Int := h.filterMap id
def many (h : Held) : Nat := (dd (vals h)).length
def rankOf (h : Held) (x : Int) : Nat := below (dd (vals h)) x
def ranks (h : Held) : Held := h.map (Option.map fun x => ((rankOf h x : Nat) : Int))
theorem mem_vals {h : Held} {x : Int} : x ∈ vals h ↔ some x ∈ h := by
  unfold vals
  rw [List.mem_filterMap]
  exact ⟨fun ⟨a, ha, e⟩ => by cases e; exact ha, fun h => ⟨_, h, rfl⟩⟩
theorem ranks_len (h : Held) : (ranks h).length = h.length := List.length_map ..
theorem many_le (h : Held) : many h ≤ h.length := by
  refine Nat.le_trans dd_len ?_
  exact List.length_filterMap_le _ _
theorem ranks_mem {h : Held} {r : Int} (hr : some r ∈ ranks h) : 0 ≤ r ∧ r < many h := by
  unfold ranks at hr
  obtain ⟨o, ho, e⟩ := List.mem_map.mp hr
  cases o with
  | none => cases e
  | some x =>
    have e1 : ((rankOf h x : Nat) : Int) = r := Option.some.inj e
    have := below_lt (mem_dd.mpr (mem_vals.mpr ho))
    unfold rankOf at e1
    unfold many
    omega

/-! ### order-alike -/
def Mono (P : Int → Int → Prop) : Prop := ∀ a a' b b', P a a' → P b b' → (a < b ↔ a' < b')
theorem Mono.eq {P : Int → Int → Prop} (m : Mono P) {a a' b b' : Int} (h : P a a') (k : P b b') : a = b ↔ a' = b' := by
  have h1 := m a a' b b' h k
  have h2 := m b b' a a' k h
  omega
inductive RO (P : Int → Int → Prop) : Option Int → Option Int → Prop
  | none : RO P none none
  | some {a b : Int} : P a b → RO P (some a) (some b)
inductive RL {α β : Type} (P : α → β → Prop) : List α → List β → Prop
  | nil : RL P [] []
  | cons {a : α} {b : β} {as : List α} {bs : List β} : P a b → RL P as bs → RL P (a :: as) (b :: bs)
theorem RL.get {α β : Type} {P : α → β → Prop} : ∀ {as : List α} {bs : List β} {i : Nat} {a : α}, RL P as bs → as[i]? = some a → ∃ b, bs[i]? = some b ∧ P a b
  | _, _, _, _, .nil, e => by simp at e
  | _, _, 0, _, .cons h _, e => by rw [List.getElem?_cons_zero] at e; cases e; exact ⟨_, rfl, h⟩
  | _, _, i + 1, _, .cons _ t, e => by
    obtain ⟨b, h1, h2⟩ := RL.get (i := i) t (by simpa using e)
    exact ⟨b, by simpa using h1, h2⟩
theorem RL.len {α β : Type} {P : α → β → Prop} : ∀ {as : List α} {bs : List β}, RL P as bs → as.length = bs.length
  | _, _, .nil => rfl
  | _, _, .cons _ t => by rw [List.length_cons, List.length_cons, RL.len t]
theorem RL.append {α β : Type} {P : α → β → Prop} : ∀ {as as' : List α} {bs bs' : List β}, RL P as bs → RL P as' bs' → RL P (as ++ as') (bs ++ bs')
  | _, _, _, _, .nil, h => h
  | _, _, _, _, .cons h t, k => .cons h (RL.append t k)
theorem RL.mapR {α β : Type} {P : α → β → Prop} {f : α → β} : ∀ {as : List α}, (∀ a ∈ as, P a (f a)) → RL P as (as.map f)
  | [], _ => .nil
  | a :: as, h => .cons (h a List.mem_cons_self) (RL.mapR fun b hb => h b (List.mem_cons_of_mem _ hb))
theorem RL.map2 {α β γ δ : Type} {P : α → β → Prop} {Q : γ → δ → Prop} {f : α → γ} {g : β → δ} (hf : ∀ a b, P a b → Q (f a) (g b)) : ∀ {as : List α} {bs : List β}, RL P as bs → RL Q (as.map f) (bs.map g)
  | _, _, .nil => .nil
  | _, _, .cons h t => .cons (hf _ _ h) (RL.map2 hf t)
abbrev RH (P : Int → Int → Prop) : Held → Held → Prop := RL (RO P)
section
variable {P : Int → Int → Prop}
theorem rl_mem (m : Mono P) : ∀ {xs ys : List Int} {a b : Int}, RL P xs ys → P a b → (a ∈ xs ↔ b ∈ ys)
  | _, _, _, _, .nil, _ => by simp
  | _, _, _, _, .cons h t, p => by rw [List.mem_cons, List.mem_cons, rl_mem m t p, m.eq p h]
theorem rl_dd (m : Mono P) : ∀ {xs ys : List Int}, RL P xs ys → RL P (dd xs) (dd ys)
  | _, _, .nil => .nil
  | _, _, .cons (a := a) (b := b) (as := as) (bs := bs) h t => by
    unfold dd
    by_cases e : a ∈ as
    · rw [if_pos e, if_pos ((rl_mem m t h).mp e)]
      exact rl_dd m t
    · rw [if_neg e, if_neg fun z => e ((rl_mem m t h).mpr z)]
      exact .cons h (rl_dd m t)
theorem rl_below (m : Mono P) : ∀ {xs ys : List Int} {a b : Int}, RL P xs ys → P a b → below xs a = below ys b
  | _, _, _, _, .nil, _ => rfl
  | _, _, a, b, .cons (a := x) (b := y) h t, p => by
    have ih := rl_below m t p
    unfold below at ih ⊢
    rw [List.filter_cons, List.filter_cons]
    have e := m _ _ _ _ h p
    by_cases h1 : x < a
    · rw [if_pos (decide_eq_true h1), if_pos (decide_eq_true (e.mp h1)), List.length_cons, List.length_cons, ih]
    · rw [if_neg (by rw [decide_eq_true_eq]; exact h1), if_neg (by rw [decide_eq_true_eq]; exact fun z => h1 (e.mpr z)), ih]
theorem rl_vals : ∀ {h k : Held}, RH P h k → RL P (vals h) (vals k)
  | _, _, .nil => .nil
  | _, _, .cons (as := as) (bs := bs) r t => by
    have ih : RL P (vals as) (vals bs) := rl_vals t
    cases r with
    | none => exact ih
    | some p => exact .cons p ih
theorem rh_ranks (m : Mono P) {h k : Held} (r : RH P h k) : ranks h = ranks k := by
  have rv := rl_dd m (rl_vals r)
  have all : ∀ {a b : Held}, RH P a b → a.map (Option.map fun x => ((rankOf h x : Nat) : Int)) = b.map (Option.map fun x => ((rankOf k x : Nat) : Int)) := by
    intro a b q
    induction q with
    | nil => rfl
    | cons p t ih =>
      rw [List.map_cons, List.map_cons, ih]
      cases p with
      | none => rfl
      | some p =>
        unfold rankOf
        simp only [Option.map_some]
        rw [rl_below m rv p]
  exact all r
theorem rh_many (m : Mono P) {h k : Held} (r : RH P h k) : many h = many k := (rl_dd m (rl_vals r)).len
theorem ro_val {h k : Held} (r : RH P h k) {v z : Int} (p : P v z) (s : Int) : RO P (valAt s v h) (valAt s z k) := by
  unfold valAt
  by_cases h1 : s = -1
  · rw [if_pos h1, if_pos h1]; exact .some p
  · rw [if_neg h1, if_neg h1]
    by_cases h2 : s = -2
    · rw [if_pos h2, if_pos h2]; exact .none
    · rw [if_neg h2, if_neg h2]
      cases e : h[s.toNat]? with
      | none =>
        have e2 : k[s.toNat]? = none := by
          rw [List.getElem?_eq_none_iff] at e ⊢
          rw [← r.len]; exact e
        rw [e2]
        exact .none
      | some o =>
        obtain ⟨o2, e2, q⟩ := r.get e
        rw [e2]
        exact q
theorem ro_less (m : Mono P) {a b c d : Option Int} (h : RO P a c) (k : RO P b d) : lessO a b = lessO c d := by
  cases h with
  | none => cases k <;> rfl
  | some p =>
    cases k with
    | none => rfl
    | some q => exact decide_eq_decide.mpr (m _ _ _ _ p q)
theorem ro_same (m : Mono P) {a b c d : Option Int} (h : RO P a c) (k : RO P b d) : sameO a b = sameO c d := by
  cases h with
  | none => cases k <;> rfl
  | some p =>
    cases k with
    | none => rfl
    | some q => exact decide_eq_decide.mpr (m.eq p q)
theorem ro_none {a c : Option Int} (h : RO P a c) : isNone a = isNone c := by cases h <;> rfl
mutual
theorem rh_holds (m : Mono P) {h k : Held} (r : RH P h k) {v z : Int} (p : P v z) : ∀ c : Cond, holds v h c = holds z k c
  | .tt => rfl
  | .ff => rfl
  | .less a b => by rw [holds, holds]; exact ro_less m (ro_val r p a) (ro_val r p b)
  | .same a b => by rw [holds, holds]; exact ro_same m (ro_val r p a) (ro_val r p b)
  | .empty a => by rw [holds, holds]; exact ro_none (ro_val r p a)
  | .not c => by rw [holds, holds, rh_holds m r p c]
  | .all cs => by rw [holds, holds, rh_holdsAll m r p cs]
  | .any cs => by rw [holds, holds, rh_holdsAny m r p cs]
theorem rh_holdsAll (m : Mono P) {h k : Held} (r : RH P h k) {v z : Int} (p : P v z) : ∀ cs : List Cond, holdsAll v h cs = holdsAll z k cs
  | [] => rfl
  | c :: cs => by rw [holdsAll, holdsAll, rh_holds m r p c, rh_holdsAll m r p cs]
theorem rh_holdsAny (m : Mono P) {h k : Held} (r : RH P h k) {v z : Int} (p : P v z) : ∀ cs : List Cond, holdsAny v h cs = holdsAny z k cs
  | [] => rfl
  | c :: cs => by rw [holdsAny, holdsAny, rh_holds m r p c, rh_holdsAny m r p cs]
end
theorem rh_caseFor (m : Mono P) {h k : Held} (r : RH P h k) {v z : Int} (p : P v z) : ∀ cs : List Case, caseFor v h cs = caseFor z k cs
  | [] => rfl
  | c :: cs => by rw [caseFor, caseFor, rh_holds m r p, rh_caseFor m r p cs]
abbrev RA (P : Int → Int → Prop) : Answer → Answer → Prop := RL fun a b => a.1 = b.1 ∧ RO P a.2 b.2
theorem rh_read (m : Mono P) {h k : Held} (r : RH P h k) {v z : Int} (p : P v z) (cs : List Case) (s : Nat) :
    (readC cs s v h).1.1 = (readC cs s z k).1.1 ∧ RH P (readC cs s v h).1.2 (readC cs s z k).1.2 ∧ RA P (readC cs s v h).2 (readC cs s z k).2 := by
  unfold readC
  rw [rh_caseFor m r p cs]
  cases caseFor z k cs with
  | none => exact ⟨rfl, r, .nil⟩
  | some j =>
    cases e : cs[j]? with
    | none => exact ⟨by simp only [e], by simp only [e]; exact r, by simp only [e]; exact .nil⟩
    | some c =>
      refine ⟨by simp only [e]; rfl, ?_, ?_⟩
      · simp only [e]
        show RH P (c.moves.map _) (c.moves.map _)
        induction c.moves with
        | nil => exact .nil
        | cons a t ih => exact .cons (ro_val r p a) ih
      · simp only [e]
        show RA P (c.says.map _) (c.says.map _)
        induction c.says with
        | nil => exact .nil
        | cons a t ih => exact .cons ⟨rfl, ro_val r p a.2⟩ ih
theorem ro_inj (m : Mono P) : ∀ {a b c : Option Int}, RO P a c → RO P b c → a = b
  | _, _, _, .none, .none => rfl
  | _, _, _, .some p, .some q => congrArg some ((m.eq p q).mpr rfl)
/-- answers that are alike with the same are the same -/
theorem ra_eq (m : Mono P) : ∀ {a b c : Answer}, RA P a c → RA P b c → a = b
  | _, _, _, .nil, .nil => rfl
  | _, _, _, .cons (a := x) h t, .cons (a := y) k u => by
    rw [ra_eq m t u]
    have e : x = y := Prod.ext (h.1.trans k.1.symm) (ro_inj m h.2 k.2)
    rw [e]
end

/-! ### joint types -/
abbrev JT := Nat × Nat × Held
def jt (c d : Content) : JT := (c.1, d.1, ranks (c.2 ++ d.2))
def odd (h : Held) : Held := h.map (Option.map fun r => 2 * r + 1)
def absL (n : Nat) (j : JT) : Content := (j.1, (odd j.2.2).take n)
def absR (n : Nat) (j : JT) : Content := (j.2.1, (odd j.2.2).drop n)
def stepJ (m : Mach) (j : JT) (t s : Nat) : Option JT :=
  if (m.read (absL m.regs j) t s).2 = (m.read (absR m.regs j) t s).2 then some (jt (m.read (absL m.regs j) t s).1 (m.read (absR m.regs j) t s).1) else none
def Closed (m : Mach) (C : JT → Prop) : Prop := ∀ j, C j → ∀ t, t < m.tags → ∀ s, s < 2 * many j.2.2 + 1 → ∃ j', C j' ∧ stepJ m j t s = some j'

def spotOf (h : Held) (v : Int) : Nat := if v ∈ vals h then 2 * rankOf h v + 1 else 2 * rankOf h v
def SP (h : Held) (v x y : Int) : Prop := (x ∈ vals h ∧ y = 2 * (rankOf h x : Nat) + 1) ∨ (x = v ∧ y = (spotOf h v : Nat))
theorem rank_lt {h : Held} {x y : Int} (hx : x ∈ vals h) (l : x < y) : rankOf h x < rankOf h y := below_mono (mem_dd.mpr hx) l
theorem rank_le {h : Held} {x y : Int} (l : x ≤ y) : rankOf h x ≤ rankOf h y := below_le_of l
theorem sp_mono (h : Held) (v : Int) : Mono (SP h v) := by
  have key : ∀ x, x ∈ vals h → (x < v ↔ 2 * rankOf h x + 1 < spotOf h v) ∧ (v < x ↔ spotOf h v < 2 * rankOf h x + 1) := fun x hx => by
    unfold spotOf
    rcases Int.lt_trichotomy x v with l | e | l
    · have r := rank_lt hx l
      split <;> constructor <;> constructor <;> intro _ <;> omega
    · subst e
      rw [if_pos hx]
      constructor <;> constructor <;> intro _ <;> omega
    · have r : rankOf h v ≤ rankOf h x := rank_le (by omega)
      by_cases hv : v ∈ vals h
      · have r2 := rank_lt hv l
        rw [if_pos hv]
        constructor <;> constructor <;> intro _ <;> omega
      · rw [if_neg hv]
        constructor <;> constructor <;> intro _ <;> omega
  intro a a' b b' ha hb
  rcases ha with ⟨ha, rfl⟩ | ⟨rfl, rfl⟩
  · rcases hb with ⟨hb, rfl⟩ | ⟨rfl, rfl⟩
    · constructor
      · intro l
        have := rank_lt ha l
        omega
      · intro l
        rcases Int.lt_trichotomy a b with q | q | q
        · exact q
        · subst q; omega
        · have := rank_lt hb q
          omega
    · have := (key a ha).1
      omega
  · rcases hb with ⟨hb, rfl⟩ | ⟨rfl, rfl⟩
    · have := (key b hb).2
      omega
    · omega
theorem odd_ranks (h : Held) : odd (ranks h) = h.map (Option.map fun x => 2 * ((rankOf h x : Nat) : Int) + 1) := by
  unfold odd ranks
  rw [List.map_map]
  refine List.map_congr_left fun o _ => ?_
  cases o <;> rfl
theorem rh_odd {h g : Held} {v : Int} (s : ∀ o ∈ g, o ∈ h) : RH (SP h v) g (g.map (Option.map fun x => 2 * ((rankOf h x : Nat) : Int) + 1)) := by
  refine RL.mapR fun o ho => ?_
  cases o with
  | none => exact .none
  | some x => exact .some (.inl ⟨mem_vals.mpr (s _ ho), rfl⟩)
theorem many_ranks (h : Held) : many (ranks h) = many h := by
  have r : RH (fun x y => x ∈ vals h ∧ y = ((rankOf h x : Nat) : Int)) h (ranks h) := RL.mapR fun o ho => by
    cases o with
    | none => exact .none
    | some x => exact .some ⟨mem_vals.mpr ho, rfl⟩
  refine (rh_many (fun a a' b b' ha hb => ?_) r).symm
  obtain ⟨ha, rfl⟩ := ha
  obtain ⟨hb, rfl⟩ := hb
  constructor
  · intro l
    have := rank_lt ha l
    omega
  · intro l
    rcases Int.lt_trichotomy a b with q | q | q
    · exact q
    · subst q; omega
    · have := rank_lt hb q
      omega
theorem spot_lt (h : Held) (v : Int) : spotOf h v < 2 * many h + 1 := by
  unfold spotOf many rankOf
  split
  · rename_i hv
    have := below_lt (mem_dd.mpr hv)
    omega
  · have := below_le (l := dd (vals h)) (x := v)
    omega
/-- a step of two contents is the step of their joint type -/
theorem step_sound {m : Mach} {C : JT → Prop} (hC : Closed m C) {c d : Content} (hc : m.In c) (hd : m.In d) (h : C (jt c d)) {t : Nat} (ht : t < m.tags) (v : Int) :
    (m.read c t v).2 = (m.read d t v).2 ∧ C (jt (m.read c t v).1 (m.read d t v).1) := by
  have hs := spot_lt (c.2 ++ d.2) v
  obtain ⟨j', hj', e⟩ := hC _ h t ht (spotOf (c.2 ++ d.2) v) (by show _ < 2 * many (ranks (c.2 ++ d.2)) + 1; rw [many_ranks]; exact hs)
  unfold stepJ at e
  have eo : odd (jt c d).2.2 = (c.2 ++ d.2).map (Option.map fun x => 2 * ((rankOf (c.2 ++ d.2) x : Nat) : Int) + 1) := odd_ranks _
  have el : absL m.regs (jt c d) = (c.1, c.2.map (Option.map fun x => 2 * ((rankOf (c.2 ++ d.2) x : Nat) : Int) + 1)) := by
    unfold absL
    rw [eo, List.map_append, List.take_left' (by rw [List.length_map]; exact hc.len)]
    rfl
  have er : absR m.regs (jt c d) = (d.1, d.2.map (Option.map fun x => 2 * ((rankOf (c.2 ++ d.2) x : Nat) : Int) + 1)) := by
    unfold absR
    rw [eo, List.map_append, List.drop_left' (by rw [List.length_map]; exact hc.len)]
    rfl
  rw [el, er] at e
  have mo := sp_mono (c.2 ++ d.2) v
  have pv : SP (c.2 ++ d.2) v v (spotOf (c.2 ++ d.2) v) := .inr ⟨rfl, rfl⟩
  obtain ⟨l1, l2, l3⟩ := rh_read mo (rh_odd (h := c.2 ++ d.2) (g := c.2) (v := v) fun o ho => List.mem_append_left _ ho) pv (m.cases c.1 t) c.1
  obtain ⟨r1, r2, r3⟩ := rh_read mo (rh_odd (h := c.2 ++ d.2) (g := d.2) (v := v) fun o ho => List.mem_append_right _ ho) pv (m.cases d.1 t) d.1
  split at e
  · rename_i hq
    refine ⟨?_, ?_⟩
    · refine ra_eq mo l3 ?_
      have hq' : (readC (m.cases c.1 t) c.1 (spotOf (c.2 ++ d.2) v) (c.2.map (Option.map fun x => 2 * ((rankOf (c.2 ++ d.2) x : Nat) : Int) + 1))).2 = (readC (m.cases d.1 t) d.1 (spotOf (c.2 ++ d.2) v) (d.2.map (Option.map fun x => 2 * ((rankOf (c.2 ++ d.2) x : Nat) : Int) + 1))).2 := hq
      rw [hq']
      exact r3
    · have e2 := Option.some.inj e
      have e3 : jt (m.read c t v).1 (m.read d t v).1 = j' := by
        rw [← e2]
        have e4 := rh_ranks mo (l2.append r2)
        show (_, _, _) = (_, _, _)
        exact congr (congrArg Prod.mk l1) (congr (congrArg Prod.mk r1) e4)
      rw [e3]
      exact hj'
  · cases e
theorem sound {m : Mach} {C : JT → Prop} (ok : m.Ok) (hC : Closed m C) : ∀ (log : List (Nat × Int)) {c d : Content}, m.In c → m.In d → C (jt c d) → (∀ e ∈ log, e.1 < m.tags) → m.answers c log = m.answers d log
  | [], _, _, _, _, _, _ => rfl
  | e :: r, c, d, hc, hd, h, ht => by
    have ht0 := ht e List.mem_cons_self
    have s := step_sound hC hc hd h ht0 e.2
    rw [Mach.answers, Mach.answers, s.1, sound ok hC r (ok.read_in hc ht0 e.2) (ok.read_in hd ht0 e.2) s.2 fun e he => ht e (List.mem_cons_of_mem _ he)]

/-! ### needed values, and contents that share them -/
def withF (rs : Held) (f : Nat → Int) : Held := rs.map (Option.map fun r => f r.toNat)
def evens (i : Nat) : Int := 2 * (i : Int)
def moved (k i : Nat) : Int := if i = k then 2 * (k : Int) + 1 else 2 * (i : Int)
/-- the rank k of the type (s, rs) is not parted -/
def Free (m : Mach) (s : Nat) (rs : Held) (k : Nat) : Prop := ∃ C, Closed m C ∧ C (jt (s, withF rs evens) (s, withF rs (moved k)))
structure Kind (m : Mach) (s : Nat) (rs : Held) : Prop where
  st : s < m.steps.length
  len : rs.length = m.regs
  rk : ∀ r, some r ∈ rs → 0 ≤ r ∧ r < many rs
def hyb (u w : Nat → Int) (k i : Nat) : Int := if i < k then u i else w i
theorem withF_in {m : Mach} {s : Nat} {rs : Held} (k : Kind m s rs) (f : Nat → Int) : m.In (s, withF rs f) := ⟨k.st, by show (rs.map _).length = _; rw [List.length_map]; exact k.len⟩
theorem withF_congr {rs : Held} {f g : Nat → Int} {n : Nat} (h : ∀ r, some r ∈ rs → 0 ≤ r ∧ r < n) (e : ∀ i, i < n → f i = g i) : withF rs f = withF rs g := by
  unfold withF
  refine List.map_congr_left fun o ho => ?_
  cases o with
  | none => rfl
  | some r =>
    have := h r ho
    simp only [Option.map_some]
    rw [e _ (by omega)]
theorem rh_withF {P : Int → Int → Prop} {rs : Held} {f g : Nat → Int} {n : Nat} (h : ∀ r, some r ∈ rs → 0 ≤ r ∧ r < n) (p : ∀ i, i < n → P (f i) (g i)) : RH P (withF rs f) (withF rs g) := by
  unfold withF
  have all : ∀ l : Held, (∀ o ∈ l, o ∈ rs) → RH P (l.map (Option.map fun r => f r.toNat)) (l.map (Option.map fun r => g r.toNat)) := by
    intro l
    induction l with
    | nil => intro _; exact .nil
    | cons o l ih =>
      intro hl
      refine .cons ?_ (ih fun o ho => hl o (List.mem_cons_of_mem _ ho))
      cases o with
      | none => exact .none
      | some r =>
        have := h r (hl _ List.mem_cons_self)
        exact .some (p _ (by omega))
  exact all rs fun _ h => h
/-- contents that share the needed values answer alike -/
theorem enough {m : Mach} {s : Nat} {rs : Held} (ok : m.Ok) (kd : Kind m s rs) {needs : Nat → Prop} {u w : Nat → Int} (hfree : ∀ k, k < many rs → ¬ needs k → Free m s rs k)
    (hu : ∀ i j, i < j → j < many rs → u i < u j) (hw : ∀ i j, i < j → j < many rs → w i < w j) (le : ∀ i, i < many rs → u i ≤ w i) (eq : ∀ i, i < many rs → needs i → u i = w i)
    (log : List (Nat × Int)) (ht : ∀ e ∈ log, e.1 < m.tags) : m.answers (s, withF rs u) log = m.answers (s, withF rs w) log := by
  have step : ∀ k, k < many rs → m.answers (s, withF rs (hyb u w (k + 1))) log = m.answers (s, withF rs (hyb u w k)) log := fun k hk => by
    by_cases e : u k = w k
    · rw [withF_congr (f := hyb u w (k + 1)) (g := hyb u w k) kd.rk fun i hi => ?_]
      unfold hyb
      by_cases h1 : i < k
      · rw [if_pos h1, if_pos (by omega)]
      · rw [if_neg h1]
        by_cases h2 : i < k + 1
        · rw [if_pos h2]
          have : i = k := by omega
          rw [this, e]
        · rw [if_neg h2]
    · obtain ⟨C, hC, hj⟩ := hfree k hk fun n => e (eq k hk n)
      have lk : u k < w k := by
        have := le k hk
        omega
      refine sound ok hC log (withF_in kd _) (withF_in kd _) ?_ ht
      let P : Int → Int → Prop := fun x y => (∃ i, i < many rs ∧ x = hyb u w (k + 1) i ∧ y = evens i) ∨ (x = w k ∧ y = 2 * (k : Int) + 1)
      have val : ∀ i, i < many rs → (i < k → hyb u w (k + 1) i < w k) ∧ (i = k → hyb u w (k + 1) i < w k) ∧ (k < i → w k < hyb u w (k + 1) i) := fun i hi => by
        unfold hyb
        refine ⟨fun h => ?_, fun h => ?_, fun h => ?_⟩
        · rw [if_pos (by omega)]
          have := hu i k h hk
          omega
        · rw [if_pos (by omega), h]
          exact lk
        · rw [if_neg (by omega)]
          exact hw k i h hi
      have inc : ∀ i j, i < j → j < many rs → hyb u w (k + 1) i < hyb u w (k + 1) j := fun i j hij hj => by
        unfold hyb
        by_cases h1 : j < k + 1
        · rw [if_pos (by omega), if_pos h1]
          exact hu i j hij hj
        · rw [if_neg h1]
          by_cases h2 : i < k + 1
          · rw [if_pos h2]
            have a := hu i j hij hj
            have b := le j hj
            omega
          · rw [if_neg h2]
            exact hw i j hij hj
      have mo : Mono P := by
        intro a a' b b' ha hb
        rcases ha with ⟨i, hi, rfl, rfl⟩ | ⟨rfl, rfl⟩
        · rcases hb with ⟨j, hj, rfl, rfl⟩ | ⟨rfl, rfl⟩
          · unfold evens
            rcases Nat.lt_trichotomy i j with q | q | q
            · have := inc i j q hj
              omega
            · subst q
              omega
            · have := inc j i q hi
              omega
          · unfold evens
            have v := val i hi
            rcases Nat.lt_trichotomy i k with q | q | q
            · have := v.1 q; omega
            · have := v.2.1 q; omega
            · have := v.2.2 q; omega
        · rcases hb with ⟨j, hj, rfl, rfl⟩ | ⟨rfl, rfl⟩
          · unfold evens
            have v := val j hj
            rcases Nat.lt_trichotomy j k with q | q | q
            · have := v.1 q; omega
            · have := v.2.1 q; omega
            · have := v.2.2 q; omega
          · omega
      have r1 : RH P (withF rs (hyb u w (k + 1))) (withF rs evens) := rh_withF kd.rk fun i hi => .inl ⟨i, hi, rfl, rfl⟩
      have r2 : RH P (withF rs (hyb u w k)) (withF rs (moved k)) := rh_withF kd.rk fun i hi => by
        by_cases e : i = k
        · subst e
          refine .inr ⟨?_, ?_⟩
          · unfold hyb; rw [if_neg (by omega)]
          · unfold moved; rw [if_pos rfl]
        · refine .inl ⟨i, hi, ?_, ?_⟩
          · unfold hyb
            by_cases h1 : i < k
            · rw [if_pos h1, if_pos (by omega)]
            · rw [if_neg h1, if_neg (by omega)]
          · unfold moved evens; rw [if_neg e]
      have e4 := rh_ranks mo (r1.append r2)
      have : jt (s, withF rs (hyb u w (k + 1))) (s, withF rs (hyb u w k)) = jt (s, withF rs evens) (s, withF rs (moved k)) := by
        show (_, _, _) = (_, _, _)
        rw [e4]
      rw [this]
      exact hj
  have all : ∀ k, k ≤ many rs → m.answers (s, withF rs (hyb u w k)) log = m.answers (s, withF rs (hyb u w 0)) log := by
    intro k
    induction k with
    | zero => intro _; rfl
    | succ k ih => intro hk; rw [step k (by omega), ih (by omega)]
  have e1 : withF rs u = withF rs (hyb u w (many rs)) := withF_congr kd.rk fun i hi => by unfold hyb; rw [if_pos hi]
  have e0 : withF rs w = withF rs (hyb u w 0) := withF_congr kd.rk fun i hi => by unfold hyb; rw [if_neg (by omega)]
  rw [e1, e0]
  exact all _ (Nat.le_refl _)
end K58
/-! The machines as data; the reading's short words. -/
namespace K58
open PySem PySem.Spec PyProof.Rows L2

def heldD (h : Held) : PyData := .tuple (h.map oI)
mutual
def condD : Cond → PyData
  | .tt => .tuple [.str "true"]
  | .ff => .tuple [.str "false"]
  | .less a b => .tuple [.str "less", .int a, .int b]
  | .same a b => .tuple [.str "same", .int a, .int b]
  | .empty a => .tuple [.str "empty", .int a]
  | .not c => .tuple [.str "not", condD c]
  | .all cs => .tuple [.str "all", .tuple (condDs cs)]
  | .any cs => .tuple [.str "any", .tuple (condDs cs)]
def condDs : List Cond → List PyData
  | [] => []
  | c :: cs => condD c :: condDs cs
end
theorem condDs_map : ∀ cs : List Cond, condDs cs = cs.map condD
  | [] => rfl
  | c :: cs => by rw [condDs, condDs_map cs]; rfl
def movesD (ms : List Int) : PyData := .tuple (ms.map .int)
def sayD (p : Int × Int) : PyData := .tuple [.int p.1, .int p.2]
def saysD (ps : List (Int × Int)) : PyData := .tuple (ps.map sayD)
def caseD (c : Case) : PyData := .tuple [condD c.cond, movesD c.moves, saysD c.says, .int c.next]
def casesD (cs : List Case) : PyData := .tuple (cs.map caseD)
def rowD (r : List (List Case)) : PyData := .tuple (r.map casesD)
def stepsD (s : List (List (List Case))) : PyData := .tuple (s.map rowD)
def machD (m : Mach) : PyData := .tuple [.int m.tags, .int m.regs, stepsD m.steps]
def contD (c : Content) : PyData := .tuple [.int c.1, heldD c.2]
def ansD (a : Answer) : PyData := .tuple (a.map fun p => .tuple [.int p.1, oI p.2])
def entryD (e : Nat × Int) : PyData := .tuple [.int e.1, .int e.2]

theorem atI_map {α β : Type} {f : α → β} {xs : List α} {i : Int} {x : α} (h : atI xs i = some x) : atI (xs.map f) i = some (f x) := by
  unfold atI at h ⊢
  rw [List.length_map]
  cases e : ixN xs.length i with
  | none => rw [e] at h; cases h
  | some j =>
    rw [e] at h
    have h' : xs[j]? = some x := h
    show (xs.map f)[j]? = some (f x)
    rw [List.getElem?_map, h']
    rfl
theorem atI_at {α : Type} {xs : List α} {j : Nat} {x : α} (h : xs[j]? = some x) : atI xs (j : Int) = some x := atI_nat h
theorem atI_mapn {α β : Type} {f : α → β} {xs : List α} {j : Nat} {x : α} (h : xs[j]? = some x) : atI (xs.map f) (j : Int) = some (f x) := atI_map (atI_nat h)

theorem atI_toNat {α : Type} {xs : List α} {i : Int} {x : α} (h0 : 0 ≤ i) (h : xs[i.toNat]? = some x) : atI xs i = some x := by
  have e := atI_nat h
  rw [Int.toNat_of_nonneg h0] at e
  exact e
theorem ifF {b : Bool} {A B : Prop} (h : b = false) (q : B) : if b = true then A else B := by
  rw [h, if_neg Bool.false_ne_true]
  exact q
theorem ifT {b : Bool} {A B : Prop} (h : b = true) (q : A) : if b = true then A else B := by
  rw [h, if_pos rfl]
  exact q
end K58
/-! Dicts whose keys are joint types. -/
namespace K58
open PySem PySem.Spec PyProof.Rows L2

def oK : Option Int → NestedKey
  | none => .none
  | some i => .num i
def jtK (j : JT) : NestedKey := .tup [.num j.1, .num j.2.1, .tup (j.2.2.map oK)]
def jtD (j : JT) : PyData := .tuple [.int j.1, .int j.2.1, heldD j.2.2]
theorem oK_inj {a b : Option Int} (h : oK a = oK b) : a = b := by
  cases a with
  | none => cases b with
    | none => rfl
    | some y => cases h
  | some x => cases b with
    | none => cases h
    | some y => cases h; rfl
theorem oKs_inj : ∀ {a b : Held}, a.map oK = b.map oK → a = b
  | [], [], _ => rfl
  | [], _ :: _, h => by cases h
  | _ :: _, [], h => by cases h
  | x :: a, y :: b, h => by
    rw [List.map_cons, List.map_cons] at h
    injection h with h1 h2
    rw [oK_inj h1, oKs_inj h2]
theorem jtK_inj {a b : JT} (h : jtK a = jtK b) : a = b := by
  obtain ⟨a1, a2, a3⟩ := a
  obtain ⟨b1, b2, b3⟩ := b
  unfold jtK at h
  injection h with h
  injection h with h1 h
  injection h with h2 h
  injection h with h3 _
  injection h1 with h1
  injection h2 with h2
  injection h3 with h3
  have e1 : a1 = b1 := by
    have z : ((a1 : Nat) : Int) = b1 := h1
    omega
  have e2 : a2 = b2 := by
    have z : ((a2 : Nat) : Int) = b2 := h2
    omega
  have e3 : a3 = b3 := oKs_inj h3
  rw [e1, e2, e3]
theorem datas_oK : ∀ h : Held, NestedKey.datas (h.map oK) = h.map oI
  | [] => rfl
  | o :: h => by
    rw [List.map_cons, NestedKey.datas, datas_oK h]
    cases o <;> rfl
theorem jtK_data (j : JT) : (jtK j).data = jtD j := by
  unfold jtK jtD heldD
  rw [NestedKey.data, NestedKey.datas, NestedKey.datas, NestedKey.datas, NestedKey.datas, NestedKey.data, NestedKey.data, NestedKey.data, datas_oK]
theorem depth_oK : ∀ h : Held, NestedKey.depthAll (h.map oK) = 0
  | [] => rfl
  | o :: h => by
    rw [List.map_cons, NestedKey.depthAll, depth_oK h]
    cases o <;> rfl
theorem jtK_depth (j : JT) : (jtK j).depth ≤ 8 := by
  unfold jtK
  rw [NestedKey.depth, NestedKey.depthAll, NestedKey.depthAll, NestedKey.depthAll, NestedKey.depthAll, NestedKey.depth, NestedKey.depth, NestedKey.depth, depth_oK]
  decide
section
variable {X : Cx} {pins : List (Addr × Obj)} {σ : L2.St} {H : Hp} {s : Shared}
mutual
theorem nested_of (I : L2.Inv X pins σ H s) : ∀ (k : NestedKey) (v : V) (u : Value), Dt X.K H v k.data → RelV v u → NestedIs s.heap k u
  | .none, _, _, h, r => by
    rw [NestedKey.data] at h
    cases h
    cases r
    exact .none
  | .num i, _, _, h, r => by
    rw [NestedKey.data] at h
    cases h
    obtain ⟨t, rfl⟩ := r
    exact .int i t
  | .text x, _, _, h, r => by
    rw [NestedKey.data] at h
    cases h
    obtain ⟨t, rfl⟩ := r
    exact .text x t
  | .tup ks, _, _, h, r => by
    rw [NestedKey.data] at h
    cases h with
    | tup h1 h2 =>
      cases r
      obtain ⟨its, rv, ⟨o, ho, hc, n, hd⟩, _⟩ := I.tuple h1
      exact .tup ho hc hd (nestedAll_of I ks _ its h2 rv)
theorem nestedAll_of (I : L2.Inv X pins σ H s) : ∀ (ks : List NestedKey) (vs : List V) (us : List Value), DtAll X.K H vs (NestedKey.datas ks) → Vals vs us → NestedAll s.heap ks us
  | [], _, _, h, r => by
    rw [NestedKey.datas] at h
    cases h
    cases r
    exact .nil
  | k :: ks, _, _, h, r => by
    rw [NestedKey.datas] at h
    cases h with
    | cons h1 h2 =>
      cases r with
      | cons r1 r2 => exact .cons (nested_of I k _ _ h1 r1) (nestedAll_of I ks _ _ h2 r2)
end
theorem key_at (I : L2.Inv X pins σ H s) {a : Addr} {j : JT} (h : Dt X.K H (.ref a) (jtD j)) : (nestedKind X.prog X.w).is s.heap (jtK j) a :=
  ⟨nested_of I (jtK j) (.ref a) (.ref a) (by rw [jtK_data]; exact h) rfl, jtK_depth j⟩
end

def ent (p : JT × Addr) : NestedKey × Addr × Value := (jtK p.1, p.2, .bool true)
def DnAt (P : Program) (w : World) (h : Heap) (d : Addr) (ks : List (JT × Addr)) : Prop :=
  (ks.length ≤ sizeLine ∧ (d == sysModules) = false) ∧ ∃ o es ep, h.get? d = some o ∧ o.ExactDict ∧ o.data = .dict es ep ∧ es.toList = (ks.map ent).map (entryOfKey (nestedKind P w)) ∧ ((ks.map ent).map (·.1)).Nodup
def DnO (P : Program) (w : World) (d : Addr) (ks : List (JT × Addr)) : HO := .ext fun h => DnAt P w h d ks
/-- a dict with the joint types js as keys -/
def DN (P : Program) (w : World) (K : PySem.W.Frag) (H : Hp) (d : Addr) (js : List JT) : Prop := ∃ ks : List (JT × Addr), H d = some (DnO P w d ks) ∧ ks.map (·.1) = js ∧ ∀ p ∈ ks, Dt K H (.ref p.2) (jtD p.1)
theorem DN.up {P : Program} {w : World} {K : PySem.W.Frag} {M : List Addr} {H H' : Hp} {d : Addr} {js : List JT} (h : DN P w K H d js) (k : Kp M H H') (n : d ∉ M) : DN P w K H' d js :=
  let ⟨ks, a, b, c⟩ := h
  ⟨ks, k.get n a, b, fun p hp => (c p hp).up k⟩
theorem keys_ent (ks : List (JT × Addr)) : (ks.map ent).map (·.1) = (ks.map (·.1)).map jtK := by
  rw [List.map_map, List.map_map]
  rfl
theorem mem_ent {ks : List (JT × Addr)} {j : JT} : (atKey (ks.map ent) (jtK j)).isSome = decide (j ∈ ks.map (·.1)) := by
  induction ks with
  | nil => rfl
  | cons p ks ih =>
    by_cases h : p.1 = j
    · have e : j ∈ ((p :: ks).map (·.1)) := by rw [List.map_cons, h]; exact List.mem_cons_self
      rw [decide_eq_true e]
      simp [atKey, ent, h]
    · have h' : ¬ jtK p.1 = jtK j := fun z => h (jtK_inj z)
      have e : (j ∈ ((p :: ks).map (·.1))) ↔ j ∈ ks.map (·.1) := by
        rw [List.map_cons, List.mem_cons]
        exact ⟨fun z => z.elim (fun q => absurd q.symm h) id, .inr⟩
      rw [decide_eq_decide.mpr e, ← ih]
      simp [atKey, ent, h']
section
variable {P : Program} {w : World} {H : Hp} {h h' : Heap} {d : Addr} {ks : List (JT × Addr)}
theorem dn_ok (x : DnAt P w h d ks) : ObjOk P w H h d (DnO P w d ks) := by
  obtain ⟨_, o, es, ep, ho, _⟩ := id x
  refine ⟨x, ⟨o, ho⟩, fun h1 h2 y k => ?_⟩
  obtain ⟨a, o, es, ep, ho, r⟩ := y
  exact ⟨a, o, es, ep, k o ho, r⟩
theorem dn_empty (h : Heap) (hb : sysModules < h.objs.size) : ObjOk P w H (h.push { cls := .type "dict", data := .dict #[] }) h.objs.size (DnO P w h.objs.size []) :=
  dn_ok ⟨⟨Nat.zero_le _, beq_eq_false_iff_ne.mpr (Ne.symm (Nat.ne_of_lt hb))⟩, _, #[], 0, Heap.get?_push_size _ rfl, ⟨rfl, rfl, rfl⟩, rfl, rfl, List.nodup_nil⟩
theorem putAt_same (k : NestedKey) : ∀ ks : List (JT × Addr), (ks.map ent).map (putAt k (.bool true)) = ks.map ent
  | [] => rfl
  | p :: ks => by
    rw [List.map_cons, List.map_cons, putAt_same k ks]
    have e : putAt k (.bool true) (ent p) = ent p := by
      unfold putAt ent
      split <;> rfl
    rw [e]
end
/-- a display's dict, with the addresses of its keys -/
theorem dict_pairs {prog : Program} {w : World} {A : Around} {E : Value → Shared → Prop} {Kt : Type} [DecidableEq Kt] {knd : HeapKind prog w Kt} {s : Shared} {env : Env} {keys : List (Option Expr)} {values : List Expr} {pos : Pos} {pairs : List (Sem Value × Sem Value)} {Q : Value → Shared → Prop} (hu : knd.room A)
    (hshape : (evalEachOpt keys env).zip ((evalEach values env).map fun v => do let x ← v; standAt pos; pure x) = pairs.map fun p => (some p.1, p.2)) (h0 : pairs ≠ []) (hlen : pairs.length ≤ 15)
    (h : wpAny (model prog w) A (evalPairs pairs) (fun vs s₁ => ∃ ps, CarriesH knd s₁.heap vs ps ∧ s₁.heap.DictOfH knd s.heap.objs.size [] ∧
      ∀ h' tk, h'.DictOfH knd s.heap.objs.size (storedAllH [] ps) → Heap.SameBut s.heap.objs.size s₁.heap h' → Q (.ref s.heap.objs.size) { s₁ with heap := h', toks := tk }) E
      { s with heap := s.heap.push { cls := .type "dict", data := .dict #[] } }) :
    wpAny (model prog w) A (eval (.Dict keys values pos) env) Q E s := by
  rw [arm_eval_Dict, hshape, dictDisplay_pairs pairs h0 (by omega)]
  exact wpAny_bind (wpAny_standAt (wpAny_bind (wpAny_subDictH (knd := knd) (Q := fun d s' => wpAny (model prog w) A (pure (Value.ref d)) Q E s') hu hlen
    (wpAny_mono h (fun vs s₁ h₁ => by obtain ⟨ps, hc, hm, hq⟩ := h₁; exact ⟨ps, hc, hm, fun h' tk a b => wpAny_pure (hq h' tk a b)⟩) fun _ _ e => e))))
section
variable {X : Cx} {pins : List (Addr × Obj)} {σ : L2.St} {H : Hp} {s : Shared} {d : Addr} {ks : List (JT × Addr)}
theorem dn_at (I : L2.Inv X pins σ H s) (h : H d = some (DnO X.prog X.w d ks)) (hk : ∀ p ∈ ks, Dt X.K H (.ref p.2) (jtD p.1)) : s.heap.DictOfH (nestedKind X.prog X.w) d (ks.map ent) ∧ ks.length ≤ sizeLine ∧ (d == sysModules) = false := by
  obtain ⟨⟨z, hd⟩, o, es, ep, ho, hx, hdt, he, hn⟩ := (I.hok d _ h).1
  refine ⟨⟨o, es, ep, ho, hx, hdt, he, fun x hx => ?_, hn⟩, z, hd⟩
  obtain ⟨p, hp, rfl⟩ := List.mem_map.mp hx
  exact key_at I (hk p hp)
def rNotInN (P : Program) (w : World) (K : PySem.W.Frag) : R2 := fun x y H Q => ∃ d js j, y = .ref d ∧ DN P w K H d js ∧ Dt K H x (jtD j) ∧ Q (.bl (!decide (j ∈ js))) H
theorem op_notInN (hu : X.A.units + 64 < cLine) : OpR X (compareOp .NotIn) (rNotInN X.prog X.w X.K) := by
  intro pins s σ H x y v u Q I rx ry h
  obtain ⟨d, js, j, rfl, ⟨ks, hd, rfl, hk⟩, hx, q⟩ := h
  cases ry
  obtain ⟨a, xs, rfl, _, _⟩ := dt_tup hx
  cases rx
  obtain ⟨dd, z, hs⟩ := dn_at I hd hk
  refine wpAny_notIn_heap (by show X.A.in1.units + 8 < cLine; simp only [Around.in1]; omega) (key_at I hx) hs dd ?_
  rw [mem_ent]
  exact ⟨.bl _, H, I.tok _, rfl, q⟩
/-- d[j] = True -/
def setN (P : Program) (w : World) (K : PySem.W.Frag) : TSet := fun o i v H Q => ∃ d js j, o = .ref d ∧ v = .bl true ∧ DN P w K H d js ∧ Dt K H i (jtD j) ∧ js.length < sizeLine ∧
  ∀ H', Kp [d] H H' → DN P w K H' d (if j ∈ js then js else js ++ [j]) → Q H'
theorem dn_store {h' : Heap} {t' : Nat} {a : Addr} {j : JT} {Q : Hp → Prop} (I : L2.Inv X pins σ H s) (h : H d = some (DnO X.prog X.w d ks)) (hk : ∀ p ∈ ks, Dt X.K H (.ref p.2) (jtD p.1)) (hj : Dt X.K H (.ref a) (jtD j)) (hl : ks.length < sizeLine)
    (dd : h'.DictOfH (nestedKind X.prog X.w) d (storedH (ks.map ent) (jtK j) a (.bool true))) (hs : Heap.SameBut d s.heap h') (q : ∀ H', Kp [d] H H' → DN X.prog X.w X.K H' d (if j ∈ ks.map (·.1) then ks.map (·.1) else ks.map (·.1) ++ [j]) → Q H') :
    ∃ H', L2.Inv X pins σ H' { s with heap := h', toks := t' } ∧ Q H' := by
  obtain ⟨_, z, hd⟩ := dn_at I h hk
  obtain ⟨o, es, ep, ho, hx, hdt, he, his, hn⟩ := dd
  let ks' : List (JT × Addr) := if j ∈ ks.map (·.1) then ks else ks ++ [(j, a)]
  have e : storedH (ks.map ent) (jtK j) a (.bool true) = ks'.map ent := by
    unfold storedH
    rw [mem_ent]
    show _ = (if j ∈ ks.map (·.1) then ks else ks ++ [(j, a)]).map ent
    by_cases hm : j ∈ ks.map (·.1)
    · rw [if_pos (decide_eq_true hm), if_pos hm, putAt_same]
    · rw [if_neg (by rw [decide_eq_true_eq]; exact hm), if_neg hm, List.map_append]
      rfl
  have hl' : ks'.length ≤ sizeLine := by
    show (if j ∈ ks.map (·.1) then ks else ks ++ [(j, a)]).length ≤ _
    split
    · exact z
    · rw [List.length_append, List.length_singleton]; omega
  rw [e] at he hn
  have mu : Mut (H d) := by rw [h]; trivial
  have kp : Kp [d] H (upd H d (DnO X.prog X.w d ks')) := Kp.wr mu
  refine ⟨upd H d (DnO X.prog X.w d ks'), I.write (x := d) (e := d) (t' := t') mu (.inl rfl) (fun b u hb q => (hs.2 b hb).trans q) ⟨o, ho⟩ (dn_ok ⟨⟨hl', hd⟩, o, es, ep, ho, hx, hdt, he, hn⟩), q _ kp ⟨ks', upd_same, ?_, fun p hp => ?_⟩⟩
  · show (if j ∈ ks.map (·.1) then ks else ks ++ [(j, a)]).map (·.1) = _
    split
    · rfl
    · rw [List.map_append]; rfl
  · have hp : p ∈ (if j ∈ ks.map (·.1) then ks else ks ++ [(j, a)]) := hp
    split at hp
    · exact (hk p hp).up kp
    · rcases List.mem_append.mp hp with r | r
      · exact (hk p r).up kp
      · rw [List.mem_singleton.mp r]
        exact hj.up kp
theorem set_dN (hu : X.A.units + 64 < cLine) : PSet X (setN X.prog X.w X.K) := by
  intro pins s σ H o i v ov iv u Q I ro ri rv h
  obtain ⟨d, js, j, rfl, rfl, ⟨ks, hd, rfl, hk⟩, hx, hl, q⟩ := h
  cases ro
  cases rv
  obtain ⟨a, xs, rfl, _, _⟩ := dt_tup hx
  cases ri
  obtain ⟨dd, z, hs⟩ := dn_at I hd hk
  rw [List.length_map] at hl
  refine wpAny_setItem_heap (by show X.A.in1.units + 8 < cLine; simp only [Around.in1]; omega) (key_at I hx) dd (fun h' dd' sb => ?_) (by rw [List.length_map]; exact z)
  exact dn_store I hd hk hx hl dd' sb q
/-- {} -/
def tDNewN (P : Program) (w : World) (K : PySem.W.Frag) : TE := fun _ H Q => ∀ p H', Kp [] H H' → H p = none → DN P w K H' p [] → Q (.ref p) H'
theorem pe_dnewN {pos : Pos} : PE X (.Dict [] [] pos) (tDNewN X.prog X.w X.K) := ⟨fun pins s σ H Q I h =>
  wpAny_Dict_empty ⟨.ref s.heap.objs.size, _, I.laid (a := s.heap.objs.size) (o := DnO X.prog X.w s.heap.objs.size []) (t' := s.toks) (fun _ _ q => Heap.get?_push_of_some _ q) (Nat.le_refl _) (dn_empty s.heap I.big), rfl,
    h _ _ (Kp.new (I.hok.fresh (Nat.le_refl _))) (I.hok.fresh (Nat.le_refl _)) ⟨[], upd_same, rfl, fun p hp => nomatch hp⟩⟩⟩
/-- {e: True} -/
def tDispN (P : Program) (w : World) (K : PySem.W.Frag) (te : TE) : TE := fun σ H Q => ∀ p H1, Kp [] H H1 → H p = none → DN P w K H1 p [] → te σ H1 fun x H2 => DN P w K H2 p [] ∧ ∃ j, Dt K H2 x (jtD j) ∧ ∀ H3, Kp [p] H2 H3 → DN P w K H3 p [j] → Q (.ref p) H3
theorem pe_dispN {e : Expr} {te : TE} {k : Nat} {pos p2 : Pos} (hu : X.A.units + 64 < cLine) (he : PE X e te) : PE X (.Dict [some e] [.Constant (.bool true) k p2] pos) (tDispN X.prog X.w X.K te) := by
  refine ⟨fun pins s σ H Q I h => ?_⟩
  have hn := I.hok.fresh (Nat.le_refl s.heap.objs.size)
  have I1 := I.laid (a := s.heap.objs.size) (o := DnO X.prog X.w s.heap.objs.size []) (h' := s.heap.push { cls := .type "dict", data := .dict #[] }) (t' := s.toks) (fun _ _ q => Heap.get?_push_of_some _ q) (Nat.le_refl _) (dn_empty s.heap I.big)
  have h := h s.heap.objs.size _ (Kp.new hn) hn ⟨[], upd_same, rfl, fun p hp => nomatch hp⟩
  refine dict_pairs (knd := nestedKind X.prog X.w) (pairs := pairTrees [some e] [.Constant (.bool true) k p2] X.env pos) (by show X.A.units + 8 < cLine; omega) (zip_pairTrees _ _ X.env pos rfl rfl) (by intro z; cases z) (by show 1 ≤ 15; decide) ?_
  refine pairTrees_cons_walk (thn (he.run pins _ σ _ _ I1 h) fun u s2 ⟨x, H2, I2, rx, ⟨ks, hd, hks, hk⟩, j, hx, q⟩ => Constant_bool (pairTrees_nil_walk ?_))
  obtain ⟨a, xs, rfl, _, _⟩ := dt_tup hx
  cases rx
  obtain rfl : ks = [] := List.map_eq_nil_iff.mp hks
  obtain ⟨dd, z, hs⟩ := dn_at I2 hd hk
  refine ⟨[(jtK j, a, .bool true)], ⟨rfl, rfl, key_at I2 hx, trivial⟩, dd, fun h' tk dk sb => ?_⟩
  obtain ⟨H3, I3, q3⟩ := dn_store (t' := tk) I2 hd hk hx (by show 0 < sizeLine; decide) dk sb (Q := fun H3 => Q (.ref s.heap.objs.size) H3) (fun H3 k3 d3 => q H3 k3 (by simpa using d3))
  exact ⟨.ref s.heap.objs.size, H3, I3, rfl, q3⟩
end
end K58
/-! The class: its instances, its methods; slices; the universe of joint types. -/
namespace K58
open PySem PySem.Spec PyProof.Rows L2

/-! ### methods -/
structure MG (P : Program) (w : World) (K : PySem.W.Frag) (mg : Str → Option Value) (base : Heap) (C : Addr) (k : Nat) (x : Str) (ps : List Str) (sp : Sp) : Prop where
  ex : ∃ f fd, FnOk P w K mg base CX0 k f fd ps sp ∧ Meth K C x f ∧ Binds K fd ps []
theorem MG.mono {P : Program} {w : World} {K : PySem.W.Frag} {mg : Str → Option Value} {base : Heap} {C : Addr} {j k : Nat} {x : Str} {ps : List Str} {sp : Sp} (F : MG P w K mg base C j x ps sp) (h : j ≤ k) : MG P w K mg base C k x ps sp :=
  let ⟨f, fd, a, b, c⟩ := F.ex
  ⟨f, fd, a.mono h, b, c⟩
structure MT (K : PySem.W.Frag) (C : Addr) (x qual : Str) (st : Stmt) (ps : List Str) : Prop where
  ex : ∃ f fd, Fun K x qual st f fd ∧ Meth K C x f ∧ Binds K fd ps []
theorem MT.ok {P : Program} {w : World} {K : PySem.W.Frag} {mg : Str → Option Value} {base : Heap} {C : Addr} {x qual : Str} {st : Stmt} {N ps : List Str} {k : Nat} {sp : Sp} (T : MT K C x qual st ps) (S : FnScope N ps (defScope st)) (len : ∀ vs H Q E, sp vs H Q E → vs.length = ps.length)
    (hbody : ∀ (f : Addr) (cdv : Value) (A : Around) (outer : List Env) (s : Shared) (H : Hp) (vs : List V) (Q : VK) (E : XK), Room k (A.deeper (envOfC qual (defScope st) s.heap.objs.size f cdv)) → sp vs H Q E →
      ∃ t, PSs (cxOf CX0 P w K mg base N qual (defScope st) f cdv A outer s H E).nox (defBody st) t ∧ t { nx := fun _ H' => Q .non H', rt := Q } (start N vs) H) : MG P w K mg base C (k + 1) x ps sp := by
  obtain ⟨f, fd, F, m, b⟩ := T.ex
  exact ⟨f, fd, F.ok S len (hbody f), m, b⟩
/-- what the text has of the class -/
structure TC (K : PySem.W.Frag) (mg : Str → Option Value) (C : Addr) : Prop where
  cl : Cls K C
  n1 : NoAttr K C "one"
  n2 : NoAttr K C "other"
  n3 : NoAttr K C "closed"
  mgC : mg "Pair" = some (.ref C)
  mkI : PySem.W.makesIn K C = true
  kp : PySem.W.keepIn K (.ref C) = true
section
variable {X : Cx} {C : Addr} {k : Nat} {ps : List Str} {sp : Sp} {E : XK} {x m : Str} {p pos apos : Pos} {e o : Expr} {es : List Expr} {ta : TE} {t : TA}
theorem pe_cm {pl : Sem Bool} (he : PE X o ta) (c : Cls X.K C) (G : MG X.prog X.w X.K X.mg X.base C k m ps sp) (hr : Room k X.A) (ha : PA X (e :: es) t)
    (hst : starEach (e :: es) X.env = (false, eval e X.env) :: starEach es X.env := by rfl) (hpl : (backTo pos (starEach es X.env)).any (·.1) = false := by rfl)
    (ht : eval (.Call (.Attribute o m apos) (e :: es) [] pos) X.env = (do
      let ov ← eval o X.env
      standAt apos.atName
      let (f, first) ← holding [ov] (getMethod ov m pl)
      callWith pos f first (backTo pos (starEach (e :: es) X.env)) (backToKw pos (keywordEach [] X.env))) := by rfl) :
    PE X (.Call (.Attribute o m apos) (e :: es) [] pos) (tMeth C m sp [] E0 ta t) := by
  obtain ⟨f, fd, F, mm, b⟩ := G.ex
  exact pe_meth he c mm F hr b .nil pass0 ha hst hpl ht
theorem pe_mk (T : TC X.K X.mg C) (G : MG X.prog X.w X.K X.mg X.base C k "__init__" ps sp) (hr : Room (k + 1) X.A) (hg : Gl X "Pair")
    (ha : PA X (e :: es) t) (he : starEach (e :: es) X.env = (false, eval e X.env) :: starEach es X.env := by rfl) (hpl : (backTo pos (starEach es X.env)).any (·.1) = false := by rfl) :
    PE X (.Call (.Name "Pair" p) (e :: es) [] pos) (tMake C sp [] E0 t) := by
  obtain ⟨f, fd, F, mm, b⟩ := G.ex
  exact pe_make ⟨T.mkI, mm.at_, mm.fn, T.kp⟩ F hr hg T.mgC b .nil pass0 ha (by decide) he hpl
end
/-! ### readings -/
def Fld (K : PySem.W.Frag) (f : Str) (x : V) (H1 : Hp) (Q : VK) : Prop := ∃ a C dx fs v, x = .ref a ∧ H1 a = some (.ins C dx fs) ∧ Cls K C ∧ NoAttr K C f ∧ fs.lookup f = some v ∧ Q v H1
def FldS (K : PySem.W.Frag) (f : Str) (y x : V) (H2 : Hp) (q : Hp → Prop) : Prop := ∃ a C dx fs, x = .ref a ∧ H2 a = some (.ins C dx fs) ∧ Cls K C ∧ NoAttr K C f ∧ fs.length < 1000 ∧ q (upd H2 a (.ins C dx (putF f y fs)))
def MethAt (C : Addr) (m : Str) (x : V) (H1 : Hp) : Prop := ∃ a dx fs, x = .ref a ∧ H1 a = some (.ins C dx fs) ∧ fs.lookup m = none
def MakeGo (C : Addr) (sp : Sp) (vs : List V) (H1 : Hp) (Q : VK) : Prop := ∀ x dx, H1 x = none → H1 dx = none → dx ≠ x →
  sp (.ref x :: vs) (upd (upd H1 dx (.own x)) x (.ins C dx [])) (fun v H2 => v = .non ∧ Q (.ref x) H2) E0
section
variable {K : PySem.W.Frag} {σ : L2.St} {H : Hp} {Q : VK} {ta tb te : TE} {t : TA} {D : Ends} {C : Addr} {f m : Str} {sp : Sp}
theorem i_fld (q : ta σ H fun x H1 => Fld K f x H1 Q) : tFld K ta f σ H Q := q
theorem i_sfld (q : tb σ H fun y H1 => ta σ H1 fun x H2 => FldS K f y x H2 fun H3 => D.nx σ H3) : sFld K ta tb f D σ H := q
theorem i_meth (q : ta σ H fun x H1 => MethAt C m x H1 ∧ t σ H1 fun vs H2 => sp (x :: vs) H2 Q E0) : tMeth C m sp [] E0 ta t σ H Q := by
  have e : (fun x H1 => MethAt C m x H1 ∧ t σ H1 fun vs H2 => sp (x :: vs) H2 Q E0) = fun (x : V) (H1 : Hp) => ∃ a dx fs, x = .ref a ∧ H1 a = some (.ins C dx fs) ∧ fs.lookup m = none ∧ t σ H1 fun vs H2 => sp (x :: (vs ++ [])) H2 Q E0 := by
    funext x H1
    have e2 : (fun vs H2 => sp (x :: (vs ++ [])) H2 Q E0) = fun (vs : List V) H2 => sp (x :: vs) H2 Q E0 := by
      funext vs H2
      rw [List.append_nil]
    rw [e2]
    exact propext ⟨fun ⟨⟨a, b, c, d, e, f⟩, g⟩ => ⟨a, b, c, d, e, f, g⟩, fun ⟨a, b, c, d, e, f, g⟩ => ⟨⟨a, b, c, d, e, f⟩, g⟩⟩
  rw [e] at q
  exact q
theorem i_make (q : t σ H fun vs H1 => MakeGo C sp vs H1 Q) : tMake C sp [] E0 t σ H Q := by
  have e : (fun vs H1 => MakeGo C sp vs H1 Q) = fun (vs : List V) (H1 : Hp) => ∀ x dx, H1 x = none → H1 dx = none → dx ≠ x →
      sp (.ref x :: (vs ++ [])) (upd (upd H1 dx (.own x)) x (.ins C dx [])) (fun v H2 => v = .non ∧ Q (.ref x) H2) E0 := by
    funext vs H1
    rw [List.append_nil]
    rfl
  rw [e] at q
  exact q
theorem i_dnew {P : Program} {w : World} (q : ∀ p H', Kp [] H H' → H p = none → DN P w K H' p [] → Q (.ref p) H') : tDNewN P w K σ H Q := fun p H' a b c => q p H' a b c
theorem i_sub {to ti : TE} {ts : TSet} {v : V} {q0 : L2.St → Hp → Prop} (q : to σ H fun o H1 => ti σ H1 fun i H2 => ts o i v H2 fun H3 => q0 σ H3) : gSub to ti ts v σ H q0 := q
theorem i_sl {r : V → Option Int → Option Int → Hp → VK → Prop} {tl th : TO} (q : te σ H fun x H1 => tl σ H1 fun l H2 => th σ H2 fun u H3 => r x l u H3 Q) : tSl r te tl th σ H Q := q
theorem i_nopart {Q : Option Int → Hp → Prop} (q : Q none H) : tNoPart σ H Q := q
theorem i_part {Q : Option Int → Hp → Prop} (q : te σ H fun x H1 => ∃ i, x = .int i ∧ Q (some i) H1) : tPart te σ H Q := q
theorem i_someI {i : Int} {P : Int → Prop} (q : P i) : ∃ j, V.int i = .int j ∧ P j := ⟨i, rfl, q⟩
/-- t + u of data -/
theorem i_cat {v u : V} {ds es : List PyData} (h : Dt K H v (.tuple ds)) (k : Dt K H u (.tuple es)) (hz : ds.length + es.length ≤ 100000) (q : ∀ z H', Kp [] H H' → Dt K H' z (.tuple (ds ++ es)) → Q z H') : rCatA K v u H Q := by
  obtain ⟨a, xs, rfl, h1, h2⟩ := dt_tup h
  obtain ⟨b, ys, rfl, k1, k2⟩ := dt_tup k
  refine ⟨a, b, xs, ys, rfl, rfl, h1, k1, small (by rw [h2.length, k2.length]; exact hz), fun e => ?_, fun _ e => ?_, fun _ _ p hp => ?_⟩
  · refine q _ _ Kp.refl ?_
    subst e
    cases h2
    exact k
  · refine q _ _ Kp.refl ?_
    subst e
    cases k2
    rw [List.append_nil]
    exact h
  · exact q _ _ (Kp.new hp) (dt_of upd_same ((h2.append k2).up (M := []) (Kp.new hp)))
theorem cut_to {α : Type} (xs : List α) (k : Nat) : (xs.drop 0).take (HT.sIx xs.length xs.length (some (k : Int)) - 0) = xs.take k := by
  rw [HT.sIx_nat, List.drop_zero, Nat.sub_zero]
  by_cases h : k ≤ xs.length
  · rw [Nat.min_eq_left h]
  · rw [Nat.min_eq_right (by omega), List.take_length, List.take_of_length_le (by omega)]
theorem cut_from {α : Type} (xs : List α) (k : Nat) : (xs.drop (HT.sIx xs.length 0 (some (k : Int)))).take (xs.length - HT.sIx xs.length 0 (some (k : Int))) = xs.drop k := by
  rw [HT.sIx_nat]
  by_cases h : k ≤ xs.length
  · rw [Nat.min_eq_left h, ← List.length_drop, List.take_length]
  · rw [Nat.min_eq_right (by omega), List.drop_length, List.take_nil, List.drop_eq_nil_of_le (by omega)]
/-- t[:k], t[k:] -/
theorem i_slTo {v : V} {ds : List PyData} {k : Nat} (h : Dt K H v (.tuple ds)) (q : ∀ z H', Kp [] H H' → Dt K H' z (.tuple (ds.take k)) → Q z H') : rSlA K v none (some (k : Int)) H Q := by
  obtain ⟨a, xs, rfl, h1, h2⟩ := dt_tup h
  refine ⟨a, xs, rfl, h1, fun e => ?_, fun _ p hp => ?_⟩
  · refine q _ _ Kp.refl ?_
    have e2 := e.2
    rw [HT.sIx_nat] at e2
    rw [List.take_of_length_le (by rw [← h2.length]; omega)]
    exact h
  · have e : cutV xs none (some (k : Int)) = xs.take k := cut_to xs k
    rw [e]
    exact q _ _ (Kp.new hp) (dt_of upd_same ((h2.take k).up (M := []) (Kp.new hp)))
theorem i_slFrom {v : V} {ds : List PyData} {k : Nat} (h : Dt K H v (.tuple ds)) (q : ∀ z H', Kp [] H H' → Dt K H' z (.tuple (ds.drop k)) → Q z H') : rSlA K v (some (k : Int)) none H Q := by
  obtain ⟨a, xs, rfl, h1, h2⟩ := dt_tup h
  refine ⟨a, xs, rfl, h1, fun e => ?_, fun _ p hp => ?_⟩
  · refine q _ _ Kp.refl ?_
    have e2 := e.1
    rw [HT.sIx_nat] at e2
    have e3 : ds.drop k = ds := by
      by_cases z : k = 0
      · rw [z, List.drop_zero]
      · have z2 : xs.length = 0 := by omega
        rw [h2.length] at z2
        rw [List.length_eq_zero_iff.mp z2, List.drop_nil]
    rw [e3]
    exact h
  · have e : cutV xs (some (k : Int)) none = xs.drop k := cut_from xs k
    rw [e]
    exact q _ _ (Kp.new hp) (dt_of upd_same ((h2.drop k).up (M := []) (Kp.new hp)))
/-- xs[:k], xs[k:] of a list -/
theorem i_slTo_L {l : Addr} {xs : List V} {k : Nat} (h : SqL K H l xs) (q : ∀ p H', Kp [] H H' → H p = none → H' p = some (.lst (xs.take k)) → Q (.ref p) H') : rSlL K (.ref l) none (some (k : Int)) H Q := by
  refine ⟨l, xs, rfl, h, fun p hp => ?_⟩
  have e : cutV xs none (some (k : Int)) = xs.take k := cut_to xs k
  rw [e]
  exact q _ _ (Kp.new hp) hp upd_same
theorem i_slFrom_L {l : Addr} {xs : List V} {k : Nat} (h : SqL K H l xs) (q : ∀ p H', Kp [] H H' → H p = none → H' p = some (.lst (xs.drop k)) → Q (.ref p) H') : rSlL K (.ref l) (some (k : Int)) none H Q := by
  refine ⟨l, xs, rfl, h, fun p hp => ?_⟩
  have e : cutV xs (some (k : Int)) none = xs.drop k := cut_from xs k
  rw [e]
  exact q _ _ (Kp.new hp) hp upd_same
theorem i_catL {l b : Addr} {xs zs : List V} (h : H l = some (.lst xs)) (k : H b = some (.lst zs)) (hz : xs.length + zs.length ≤ 100000) (q : ∀ p H', Kp [] H H' → H p = none → H' p = some (.lst (xs ++ zs)) → Q (.ref p) H') : rCat (.ref l) (.ref b) H Q :=
  ⟨l, b, xs, zs, rfl, rfl, h, k, small hz, fun p hp => q _ _ (Kp.new hp) hp upd_same⟩
end
theorem i_sq {s u : TS} {D : Ends} {σ : L2.St} {H : Hp} (q : tSeq s u D σ H) : tSeq s u D σ H := q
/-- one rest for both ways -/
theorem i_seqJ {s u : TS} {D : Ends} {σ : L2.St} {H : Hp} (R : L2.St → Hp → Prop) (join : ∀ σ' H', R σ' H' → u D σ' H') (q : ∀ nx : L2.St → Hp → Prop, (∀ σ' H', R σ' H' → nx σ' H') → s { D with nx := nx } σ H) : tSeq s u D σ H := q (u D) join
def ListRg (Q : VK) (x : V) (H1 : Hp) : Prop := ∃ n : Int, x = .int n ∧ RgOk 0 n ∧ ∀ q, H1 q = none → Q (.ref q) (upd H1 q (.lst (rgV 0 n)))
section
variable {K : PySem.W.Frag} {H : Hp} {Q : VK} {te : TE} {σ : L2.St}
theorem i_lrg (h : te σ H fun x H1 => ListRg Q x H1) : tLstRg (tRg1 te) σ H Q := h
end
theorem kp_snoc {M : List Addr} {H H1 H2 : Hp} (b : Kp [] H1 H2) (a : Kp M H H1) : Kp M H H2 := a.trans b.any
/-! ### answers compared -/
theorem shaped_of {d : PyData} (h1 : d.canLay0 = true) (h2 : d.depth ≤ 64) : SeqAt.shaped d = true := by
  show (d.canLay0 && decide (d.depth ≤ 64)) = true
  rw [h1, decide_eq_true h2]
  rfl
def sayO (p : Int × Option Int) : PyData := .tuple [.int p.1, oI p.2]
theorem ans_lay : ∀ a : Answer, PyData.canLayAll0 (a.map sayO) = true
  | [] => rfl
  | p :: a => by
    rw [List.map_cons, PyData.canLayAll0, ans_lay a]
    unfold sayO
    cases p.2 <;> rfl
theorem ans_depth : ∀ a : Answer, PyData.depthAll (a.map sayO) ≤ 1
  | [] => Nat.zero_le _
  | p :: a => by
    have ih := ans_depth a
    have e : (sayO p).depth ≤ 1 := by
      unfold sayO
      cases p.2 <;> simp [PyData.depth, PyData.depthAll, oI]
    rw [List.map_cons, PyData.depthAll]
    exact Nat.max_le.mpr ⟨e, ih⟩
theorem ansD_lay (a : Answer) : (ansD a).canLay0 = true := by
  unfold ansD
  rw [PyData.canLay0]
  exact ans_lay a
theorem ansD_depth (a : Answer) : (ansD a).depth ≤ 2 := by
  unfold ansD
  rw [PyData.depth]
  have := ans_depth a
  show _ + 1 ≤ 2 
  exact Nat.succ_le_succ this
theorem oI_eqv (a b : Option Int) : PyData.eqv (oI a) (oI b) = decide (a = b) := by
  cases a with
  | none => cases b with
    | none => rfl
    | some y => rfl
  | some x => cases b with
    | none => rfl
    | some y =>
      show (x == y) = _
      by_cases h : x = y
      · subst h; simp
      · rw [beq_eq_false_iff_ne.mpr h]
        exact (decide_eq_false (fun z => h (Option.some.inj z))).symm
theorem ans_eqv : ∀ a b : Answer, PyData.eqvAll (a.map sayO) (b.map sayO) = decide (a = b)
  | [], [] => rfl
  | [], _ :: _ => rfl
  | _ :: _, [] => rfl
  | p :: a, q :: b => by
    rw [List.map_cons, List.map_cons, PyData.eqvAll, ans_eqv a b]
    have e : PyData.eqv (sayO p) (sayO q) = decide (p = q) := by
      obtain ⟨x, o⟩ := p
      obtain ⟨y, u⟩ := q
      show ((x == y) && (PyData.eqv (oI o) (oI u) && true)) = _
      rw [oI_eqv, Bool.and_true]
      by_cases h : x = y
      · by_cases h2 : o = u
        · simp [h, h2]
        · simp [h2]
      · simp [h]
    rw [e]
    by_cases h : p = q
    · by_cases h2 : a = b
      · simp [h, h2]
      · simp [h2]
    · simp [h]
theorem ansD_eqv (a b : Answer) : PyData.eqv (ansD a) (ansD b) = decide (a = b) := ans_eqv a b
theorem answers_eqv : ∀ a b : List Answer, PyData.eqvAll (a.map ansD) (b.map ansD) = decide (a = b)
  | [], [] => rfl
  | [], _ :: _ => rfl
  | _ :: _, [] => rfl
  | p :: a, q :: b => by
    rw [List.map_cons, List.map_cons, PyData.eqvAll, answers_eqv a b, ansD_eqv]
    by_cases h : p = q
    · by_cases h2 : a = b
      · simp [h, h2]
      · simp [h2]
    · simp [h]
theorem answers_lay : ∀ a : List Answer, PyData.canLayAll0 (a.map ansD) = true
  | [] => rfl
  | p :: a => by rw [List.map_cons, PyData.canLayAll0, answers_lay a, ansD_lay]; rfl
theorem answers_depth : ∀ a : List Answer, PyData.depthAll (a.map ansD) ≤ 2
  | [] => Nat.zero_le _
  | p :: a => by
    rw [List.map_cons, PyData.depthAll]
    exact Nat.max_le.mpr ⟨ansD_depth p, answers_depth a⟩
section
variable {K : PySem.W.Frag} {H : Hp} {Q : VK}
theorem i_neA {v u : V} {a b : Answer} (h : Dt K H v (ansD a)) (k : Dt K H u (ansD b)) (q : Q (.bl (!decide (a = b))) H) : rNeD K v u H Q :=
  ⟨_, _, h.dp, k.dp, shaped_of (ansD_lay a) (by have := ansD_depth a; omega), shaped_of (ansD_lay b) (by have := ansD_depth b; omega), by rw [ansD_eqv]; exact q⟩
theorem i_neAs {v u : V} {a b : List Answer} (h : Dt K H v (.tuple (a.map ansD))) (k : Dt K H u (.tuple (b.map ansD))) (q : Q (.bl (!decide (a = b))) H) : rNeD K v u H Q := by
  have sh : ∀ a : List Answer, SeqAt.shaped (.tuple (a.map ansD)) = true := fun a => shaped_of (by rw [PyData.canLay0]; exact answers_lay a) (by
    rw [PyData.depth]
    have := answers_depth a
    omega)
  exact ⟨_, _, Dt.dp _ _ h, Dt.dp _ _ k, sh a, sh b, by rw [PyData.eqv, answers_eqv]; exact q⟩
end
/-! ### instances -/
theorem oo_ : ¬ (("one" : Str) = "other") := by decide +kernel
theorem oc_ : ¬ (("one" : Str) = "closed") := by decide +kernel
theorem tc_ : ¬ (("other" : Str) = "closed") := by decide +kernel
def pf (a b : V) (d : Addr) : List (Str × V) := putF "closed" (.ref d) (putF "other" b (putF "one" a []))
theorem pf_one (a b : V) (d : Addr) : (pf a b d).lookup ("one" : Str) = some a := by
  unfold pf
  rw [lookup_putF, if_neg oc_, lookup_putF, if_neg oo_, lookup_putF, if_pos rfl]
theorem pf_other (a b : V) (d : Addr) : (pf a b d).lookup ("other" : Str) = some b := by
  unfold pf
  rw [lookup_putF, if_neg tc_, lookup_putF, if_pos rfl]
theorem pf_closed (a b : V) (d : Addr) : (pf a b d).lookup ("closed" : Str) = some (.ref d) := by
  unfold pf
  rw [lookup_putF, if_pos rfl]
theorem pf_no (a b : V) (d : Addr) {m : Str} (h1 : ¬ m = "one") (h2 : ¬ m = "other") (h3 : ¬ m = "closed") : (pf a b d).lookup m = none := by
  unfold pf
  rw [lookup_putF, if_neg h3, lookup_putF, if_neg h2, lookup_putF, if_neg h1]
  all_goals rfl
/-- the pair at p: twice the machine m, its closed types at d -/
structure PI (K : PySem.W.Frag) (C : Addr) (m : Mach) (H : Hp) (p d : Addr) : Prop where
  ex : ∃ dx a b, H p = some (.ins C dx (pf a b d)) ∧ Dt K H a (machD m) ∧ Dt K H b (machD m)
theorem PI.up {K : PySem.W.Frag} {C : Addr} {m : Mach} {M : List Addr} {H H' : Hp} {p d : Addr} (h : PI K C m H p d) (k : Kp M H H') (n : p ∉ M) : PI K C m H' p d :=
  let ⟨dx, a, b, e, x, y⟩ := h.ex
  ⟨dx, a, b, k.get n e, x.up k, y.up k⟩
section
variable {K : PySem.W.Frag} {C : Addr} {mg : Str → Option Value} {m : Mach} {H : Hp} {Q : VK} {p d : Addr}
theorem i_fOne (T : TC K mg C) (h : PI K C m H p d) (q : ∀ u, Dt K H u (machD m) → Q u H) : Fld K "one" (.ref p) H Q :=
  let ⟨dx, a, b, e, x, y⟩ := h.ex
  ⟨p, C, dx, _, a, rfl, e, T.cl, T.n1, pf_one a b d, q a x⟩
theorem i_fOther (T : TC K mg C) (h : PI K C m H p d) (q : ∀ u, Dt K H u (machD m) → Q u H) : Fld K "other" (.ref p) H Q :=
  let ⟨dx, a, b, e, x, y⟩ := h.ex
  ⟨p, C, dx, _, b, rfl, e, T.cl, T.n2, pf_other a b d, q b y⟩
theorem i_fClosed (T : TC K mg C) (h : PI K C m H p d) (q : Q (.ref d) H) : Fld K "closed" (.ref p) H Q :=
  let ⟨dx, a, b, e, x, y⟩ := h.ex
  ⟨p, C, dx, _, _, rfl, e, T.cl, T.n3, pf_closed a b d, q⟩
theorem i_mAt {m' : Str} (h : PI K C m H p d) (h1 : ¬ m' = "one") (h2 : ¬ m' = "other") (h3 : ¬ m' = "closed") : MethAt C m' (.ref p) H :=
  let ⟨dx, a, b, e, x, y⟩ := h.ex
  ⟨p, dx, _, rfl, e, pf_no a b d h1 h2 h3⟩
end
/-! ### joint types: finitely many -/
structure JOk (m : Mach) (j : JT) : Prop where
  s1 : j.1 < m.steps.length
  s2 : j.2.1 < m.steps.length
  len : j.2.2.length = 2 * m.regs
  rk : ∀ r, some r ∈ j.2.2 → 0 ≤ r ∧ r < 4
theorem jt_ok {m : Mach} (ok : m.Ok) {c d : Content} (hc : m.In c) (hd : m.In d) : JOk m (jt c d) := by
  refine ⟨hc.st, hd.st, ?_, fun r hr => ?_⟩
  · show (ranks (c.2 ++ d.2)).length = _
    rw [ranks_len, List.length_append, hc.len, hd.len]
    omega
  · have h := ranks_mem (h := c.2 ++ d.2) hr
    have h2 := many_le (c.2 ++ d.2)
    have h3 := ok.regs
    rw [List.length_append, hc.len, hd.len] at h2
    omega
theorem JOk.inL {m : Mach} {j : JT} (h : JOk m j) : m.In (absL m.regs j) := ⟨h.s1, by
  show ((odd j.2.2).take m.regs).length = _
  unfold odd
  rw [List.length_take, List.length_map, h.len]
  omega⟩
theorem JOk.inR {m : Mach} {j : JT} (h : JOk m j) : m.In (absR m.regs j) := ⟨h.s2, by
  show ((odd j.2.2).drop m.regs).length = _
  unfold odd
  rw [List.length_drop, List.length_map, h.len]
  omega⟩
def rkAll : List (Option Int) := [none, some 0, some 1, some 2, some 3]
def hsAll : Nat → List Held
  | 0 => [[]]
  | n + 1 => (hsAll n).flatMap fun h => rkAll.map (· :: h)
theorem hsAll_len : ∀ n, (hsAll n).length = 5 ^ n
  | 0 => rfl
  | n + 1 => by
    have e : ∀ l : List Held, (l.flatMap fun h => rkAll.map (· :: h)).length = l.length * 5 := by
      intro l
      induction l with
      | nil => rfl
      | cons x l ih =>
        rw [List.flatMap_cons, List.length_append, ih, List.length_map, List.length_cons]
        show 5 + _ = _
        omega
    rw [hsAll, e, hsAll_len n, Nat.pow_succ]
theorem hsAll_mem : ∀ {h : Held}, (∀ r, some r ∈ h → 0 ≤ r ∧ r < 4) → h ∈ hsAll h.length
  | [], _ => List.mem_cons_self
  | o :: h, k => by
    rw [List.length_cons, hsAll, List.mem_flatMap]
    refine ⟨h, hsAll_mem fun r hr => k r (List.mem_cons_of_mem _ hr), List.mem_map.mpr ⟨o, ?_, rfl⟩⟩
    cases o with
    | none => exact List.mem_cons_self
    | some r =>
      have b := k r List.mem_cons_self
      have c : r = 0 ∨ r = 1 ∨ r = 2 ∨ r = 3 := by omega
      rcases c with e | e | e | e <;> subst e <;> decide
def jtAll (n : Nat) : List JT := [0, 1, 2].flatMap fun a => [0, 1, 2].flatMap fun b => (hsAll n).map fun h => (a, b, h)
theorem jtAll_len (n : Nat) : (jtAll n).length = 9 * 5 ^ n := by
  unfold jtAll
  simp only [List.flatMap_cons, List.flatMap_nil, List.length_append, List.length_map, hsAll_len, List.length_nil]
  omega
theorem jtAll_mem {m : Mach} (ok : m.Ok) {j : JT} (h : JOk m j) : j ∈ jtAll (2 * m.regs) := by
  obtain ⟨a, b, hd⟩ := j
  have l3 := ok.num.2
  have ha : a ∈ [0, 1, 2] := by
    have := h.s1
    have c : a = 0 ∨ a = 1 ∨ a = 2 := by
      have e : a < m.steps.length := this
      omega
    rcases c with e | e | e <;> subst e <;> decide
  have hb : b ∈ [0, 1, 2] := by
    have := h.s2
    have c : b = 0 ∨ b = 1 ∨ b = 2 := by
      have e : b < m.steps.length := this
      omega
    rcases c with e | e | e <;> subst e <;> decide
  have e : hd.length = 2 * m.regs := h.len
  have hh := hsAll_mem (h := hd) h.rk
  rw [e] at hh
  unfold jtAll
  exact List.mem_flatMap.mpr ⟨a, ha, List.mem_flatMap.mpr ⟨b, hb, List.mem_map.mpr ⟨hd, hh, rfl⟩⟩⟩
theorem jts_few {m : Mach} (ok : m.Ok) {js : List JT} (n : js.Nodup) (h : ∀ j ∈ js, JOk m j) : js.length ≤ 5625 := by
  have e := nodup_len n fun j hj => jtAll_mem ok (h j hj)
  rw [jtAll_len] at e
  have r := ok.regs
  have p : 5 ^ (2 * m.regs) ≤ 5 ^ 4 := Nat.pow_le_pow_right (by decide) (by omega)
  have q : (5 : Nat) ^ 4 = 625 := by decide
  omega
/-- what the closed types of a pair are -/
structure CL (m : Mach) (cl : List JT) : Prop where
  nd : cl.Nodup
  ok : ∀ j ∈ cl, JOk m j
  closed : Closed m (· ∈ cl)
end K58
namespace K58
open PySem PySem.Spec PyProof.Rows L2
local macro_rules | `(tactic| walk_at "set") => `(tactic| (intros; (first | (simp only [L2.start, wipe, List.map_cons, List.map_nil, List.set_cons_zero, List.set_cons_succ, List.length_cons, List.length_nil, List.replicate_succ, List.replicate_zero, List.cons_append, List.nil_append, Nat.reduceAdd, Nat.reduceSub]; exact rfl) | exact rfl)))
local macro_rules | `(tactic| walk_at "one") => `(tactic| first
  | (with_reducible refine i_seq ?_)
  | walk_at "one0")
local macro_rules | `(tactic| walk_at "u") => `(tactic| repeat (walk_at "one0"))
local macro_rules | `(tactic| walk_at "one0") => `(tactic| first
  | (with_reducible refine i_asg ?_)
  | ((with_reducible show gName _ _ _ _ _); refine' i_name (by walk_at "set") ?_)
  | ((with_reducible show tVar _ _ _ _); refine ⟨_, rfl, ?_⟩)
  | (with_reducible refine i_c ?_)
  | (with_reducible refine i_op ?_)
  | (with_reducible refine i_un ?_)
  | (with_reducible refine i_nil ?_)
  | (with_reducible refine i_cons ?_)
  | (with_reducible refine i_call ?_)
  | (with_reducible refine i_CB ?_)
  | (with_reducible refine i_if ?_)
  | (with_reducible refine i_ifE ?_)
  | (with_reducible refine i_test ?_)
  | (with_reducible refine i_B ?_)
  | (with_reducible refine i_and ?_)
  | (with_reducible refine i_or ?_)
  | (with_reducible refine i_not ?_)
  | (with_reducible refine i_notV ?_)
  | (with_reducible refine i_isN ?_)
  | (with_reducible refine i_notN ?_)
  | (with_reducible refine i_eqI ?_)
  | (with_reducible refine i_eqS ?_)
  | (with_reducible refine i_I0 ?_)
  | (with_reducible refine i_U ?_)
  | (with_reducible refine i_bl ?_)
  | (with_reducible refine i_ret ?_)
  | (with_reducible refine i_drop ?_)
  | (with_reducible refine i_next ?_)
  | (with_reducible refine i_tup ?_)
  | (with_reducible refine i_lst ?_)
  | (with_reducible refine i_bm ?_)
  | (with_reducible refine i_bm0 ?_)
  | (with_reducible refine i_forT ?_)
  | (with_reducible refine i_forL ?_)
  | (with_reducible refine i_forR ?_)
  | (with_reducible refine i_lcT ?_)
  | (with_reducible refine i_lcL ?_)
  | (with_reducible refine i_lcR ?_)
  | (with_reducible refine i_fld ?_)
  | (with_reducible refine i_sfld ?_)
  | (with_reducible refine i_meth ?_)
  | (with_reducible refine i_make ?_)
  | (with_reducible refine i_sub ?_)
  | (with_reducible refine i_sl ?_)
  | (with_reducible refine i_nopart ?_)
  | (with_reducible refine i_lrg ?_)
  | (with_reducible refine i_part ?_)
  | (with_reducible refine i_someI ?_))
local macro_rules | `(tactic| walk_at "rd") => `(tactic| (walk_at "one"; repeat (walk_at "one")))
local macro_rules | `(tactic| walk_at "br") => `(tactic| ((with_reducible show (if _ = true then _ else _)); first
  | (refine ifF (by decide +kernel) ?_)
  | (refine ifT (by decide +kernel) ?_)
  | (refine ifF rfl ?_)
  | (refine ifT rfl ?_)))
local macro_rules | `(tactic| walk_at "dp") => `(tactic| first
  | assumption
  | exact Dt.non
  | exact Dt.int _
  | exact Dt.str _
  | exact DtAll.nil
  | exact DtAll.cons (by walk_at "dp") (by walk_at "dp")
  | exact Dt.up (by assumption) (by walk_at "dp")
  | exact DtAll.up (by assumption) (by walk_at "dp"))
local macro_rules | `(tactic| walk_at "t") => `(tactic| repeat (walk_at "one"))
local macro_rules | `(tactic| walk_at "sq") => `(tactic| ((repeat (walk_at "one0")); with_reducible refine i_sq ?_))
local macro_rules | `(tactic| walk_at "kp") => `(tactic| first | exact Kp.refl | exact kp_snoc (by assumption) (by walk_at "kp"))
/-! ### value_at -/
abbrev s_value_at : Stmt := topS 3
theorem sc_value_at : FnScope ["source", "value", "held"] ["source", "value", "held"] (defScope s_value_at) := ⟨rfl, rfl, rfl, by decide +kernel, rfl, by decide +kernel, by decide +kernel⟩
def spValue (K : PySem.W.Frag) : Sp := fun vs H Q _ => ∃ (s v : Int) (h : Held) (u : V), vs = [.int s, .int v, u] ∧ Dt K H u (heldD h) ∧ srcOk h.length s ∧ Q (oV (valAt s v h)) H
section
variable {P : Program} {w : World} {K : PySem.W.Frag} {mg : Str → Option Value} {base : Heap}
theorem ok_value (F : FT K mg "value_at" s_value_at ["source", "value", "held"]) (T : Tx mg) : FG P w K mg base 1 "value_at" ["source", "value", "held"] (spValue K) := by
  refine F.ok sc_value_at (fun vs H Q E h => ?_) (fun f cdv A outer s H vs Q E hr h => ?_)
  · obtain ⟨_, _, _, _, rfl, _⟩ := h
    rfl
  obtain ⟨src, v, held, u, rfl, hu, hs, q⟩ := h
  have sc := sc_value_at
  refine ⟨_, (pss_cons (ps_if (pt_cmpR op_eq (pv 0) (pe_gc (by rfl) T.c_READ) (nomark _))
    (pss_one (ps_ret (pv 1)))
    pss_nil)
    (pss_one (ps_ret (pe_ifExp (pt_cmpR op_eq (pv 0) (pe_gc (by rfl) T.c_NOTHING) (nomark _)) pe_non (pe_ix ix_tup (pv 2) (pv 0) (fun _ _ => rfl)))))), ?_⟩
  refine' i_start (by walk_at "set") ?_
  walk_at "rd"
  refine ite2 (fun e => ?_) (fun e => ?_)
  · walk_at "rd"
    have e1 : src = -1 := of_decide_eq_true e
    rw [valAt, if_pos e1] at q
    exact q
  · walk_at "rd"
    have e1 : ¬ src = -1 := fun z => e (decide_eq_true z)
    rw [valAt, if_neg e1] at q
    refine ite2 (fun e => ?_) (fun e => ?_)
    · walk_at "rd"
      have e2 : src = -2 := of_decide_eq_true e
      rw [if_pos e2] at q
      exact q
    · walk_at "rd"
      have e2 : ¬ src = -2 := fun z => e (decide_eq_true z)
      rw [if_neg e2] at q
      have hs' : 0 ≤ src ∧ src < held.length := by
        rcases hs with z | z | z
        · exact absurd z e1
        · exact absurd z e2
        · exact z
      have hj : src.toNat < held.length := by omega
      rw [List.getElem?_eq_getElem hj, Option.getD_some] at q
      have ix : atI (held.map oI) src = some (oI held[src.toNat]) := atI_map (atI_toNat hs'.1 (List.getElem?_eq_getElem hj))
      exact i_ixTo (o := held[src.toNat]) hu ix q
end
/-! ### holds -/
abbrev s_holds : Stmt := topS 4
theorem sc_holds : FnScope ["condition", "value", "held", "kind", "one", "other", "part"] ["condition", "value", "held"] (defScope s_holds) := ⟨rfl, rfl, rfl, by decide +kernel, rfl, by decide +kernel, by decide +kernel⟩
def spHolds (K : PySem.W.Frag) (n : Nat) : Sp := fun vs H Q _ => ∃ (c : Cond) (v : Int) (h : Held) (u t : V), vs = [u, .int v, t] ∧ Dt K H u (condD c) ∧ Dt K H t (heldD h) ∧ Cond.ok h.length n c ∧ ∀ H', Kp [] H H' → Q (.bl (holds v h c)) H'
theorem okAll_len {r n : Nat} {cs : List Cond} {i : Nat} {c : Cond} (h : Cond.okAll r n cs) (hi : cs[i]? = some c) : Cond.ok r n c := Cond.okAll_mem h (List.mem_of_getElem? hi)
theorem holdsAll_eq (v : Int) (h : Held) : ∀ cs : List Cond, holdsAll v h cs = (cs.map (holds v h)).all id
  | [] => rfl
  | c :: cs => by rw [holdsAll, holdsAll_eq v h cs]; rfl
theorem holdsAny_eq (v : Int) (h : Held) : ∀ cs : List Cond, holdsAny v h cs = (cs.map (holds v h)).any id
  | [] => rfl
  | c :: cs => by rw [holdsAny, holdsAny_eq v h cs]; rfl
theorem take_map_next {α β : Type} {f : α → β} {xs : List α} {i : Nat} {x : α} (h : xs[i]? = some x) : (xs.take i).map f ++ [f x] = (xs.take (i + 1)).map f := by
  rw [List.take_add_one, h, List.map_append]
  rfl
section
variable {P : Program} {w : World} {K : PySem.W.Frag} {mg : Str → Option Value} {base : Heap}
theorem ok_holds_step {n : Nat} (F : FT K mg "holds" s_holds ["condition", "value", "held"]) (T : Tx mg) (G_value_at : FG P w K mg base (n + 1) "value_at" ["source", "value", "held"] (spValue K))
    (G_holds : FG P w K mg base (n + 1) "holds" ["condition", "value", "held"] (spHolds K n)) : FG P w K mg base (n + 2) "holds" ["condition", "value", "held"] (spHolds K (n + 1)) := by
  refine F.ok sc_holds (fun vs H Q E h => ?_) (fun f cdv A outer s H vs Q E hr h => ?_)
  · obtain ⟨_, _, _, _, _, rfl, _⟩ := h
    rfl
  obtain ⟨c, v, hd, u, t, rfl, hu, ht, hok, q⟩ := h
  have sc := sc_holds
  refine ⟨_, (pss_cons (ps_set (i := 3) sc.nd rfl (.inl rfl) (pe_ix ix_tup (pv 0) pe_int (fun _ _ => rfl)))
    (pss_cons (ps_if (PW.pt (pw_or (pt_cmpR op_eq (pv 3) pe_str (nomark _)) (pw_or1 (pt_cmpR op_eq (pv 3) pe_str (nomark _)))))
    (pss_one (ps_ret (pe_cmpR op_eq (pv 3) pe_str (nomark _))))
    pss_nil)
    (pss_cons (ps_if (pt_cmpR op_eq (pv 3) pe_str (nomark _))
    (pss_one (ps_ret (pe_not (pe_cg G_holds hr (by rfl) (pa_cons (pe_ix ix_tup (pv 0) pe_int (fun _ _ => rfl)) (pa_cons (pv 1) (pa_cons (pv 2) pa_nil)))))))
    pss_nil)
    (pss_cons (ps_if (pt_cmpR op_eq (pv 3) pe_str (nomark _))
    (pss_one (ps_ret (pe_callB (cr_all rfl) (by rfl) T.b_all (by decide +kernel) (pa_cons (pe_lc (own := [("part", 6)]) rfl sc.nd (pi_tup (pe_ix ix_tup (pv 0) pe_int (fun _ _ => rfl))) (blkOk_by (own := [("part", 6)]) (N := ["condition", "value", "held", "kind", "one", "other", "part"]) (sc := defScope s_holds) (by decide +kernel)) (fun _ _ _ _ _ => (pg_name (i := 6) sc.nd rfl (.inl rfl))) (fun _ _ _ _ _ => pts_nil) (fun _ _ _ _ _ => (pe_cg G_holds hr (by rfl) (pa_cons (pv 6) (pa_cons (pv 1) (pa_cons (pv 2) pa_nil)))))) pa_nil))))
    pss_nil)
    (pss_cons (ps_if (pt_cmpR op_eq (pv 3) pe_str (nomark _))
    (pss_one (ps_ret (pe_callB (cr_any rfl) (by rfl) T.b_any (by decide +kernel) (pa_cons (pe_lc (own := [("part", 6)]) rfl sc.nd (pi_tup (pe_ix ix_tup (pv 0) pe_int (fun _ _ => rfl))) (blkOk_by (own := [("part", 6)]) (N := ["condition", "value", "held", "kind", "one", "other", "part"]) (sc := defScope s_holds) (by decide +kernel)) (fun _ _ _ _ _ => (pg_name (i := 6) sc.nd rfl (.inl rfl))) (fun _ _ _ _ _ => pts_nil) (fun _ _ _ _ _ => (pe_cg G_holds hr (by rfl) (pa_cons (pv 6) (pa_cons (pv 1) (pa_cons (pv 2) pa_nil)))))) pa_nil))))
    pss_nil)
    (pss_cons (ps_set (i := 4) sc.nd rfl (.inl rfl) (pe_cg G_value_at hr (by rfl) (pa_cons (pe_ix ix_tup (pv 0) pe_int (fun _ _ => rfl)) (pa_cons (pv 1) (pa_cons (pv 2) pa_nil)))))
    (pss_cons (ps_if (pt_cmpR op_eq (pv 3) pe_str (nomark _))
    (pss_one (ps_ret (pe_cmp (pc_isN (pv 4)) rfl)))
    pss_nil)
    (pss_cons (ps_set (i := 5) sc.nd rfl (.inl rfl) (pe_cg G_value_at hr (by rfl) (pa_cons (pe_ix ix_tup (pv 0) pe_int (fun _ _ => rfl)) (pa_cons (pv 1) (pa_cons (pv 2) pa_nil)))))
    (pss_cons (ps_if (PW.pt (pw_or (pt_cmp (pc_isN (pv 4)) rfl) (pw_or1 (pt_cmp (pc_isN (pv 5)) rfl))))
    (pss_one (ps_ret pe_bl))
    pss_nil)
    (pss_one (ps_ret (pe_ifExp (pt_cmpR op_eq (pv 3) pe_str (nomark _)) (pe_cmpR op_lt (pv 4) (pv 5) (nomark _)) (pe_cmpR op_eq (pv 4) (pv 5) (nomark _)))))))))))))), ?_⟩
  refine' i_start (by walk_at "set") ?_
  have ix0 : ∀ {ds : List PyData} {d : PyData}, atI (d :: ds) 0 = some d := atI_nat (j := 0) rfl
  have ix1 : ∀ {ds : List PyData} {c d : PyData}, atI (c :: d :: ds) 1 = some d := atI_nat (j := 1) rfl
  have ix2 : ∀ {ds : List PyData} {b c d : PyData}, atI (b :: c :: d :: ds) 2 = some d := atI_nat (j := 2) rfl
  cases c with
  | tt =>
    walk_at "rd"; refine i_ixTs hu ix0 ?_
    repeat (first | walk_at "rd" | walk_at "br")
    exact q H Kp.refl
  | ff =>
    walk_at "rd"; refine i_ixTs hu ix0 ?_
    repeat (first | walk_at "rd" | walk_at "br")
    exact q H Kp.refl
  | not c =>
    rw [Cond.ok] at hok
    walk_at "rd"; refine i_ixTs hu ix0 ?_
    repeat (first | walk_at "rd" | walk_at "br")
    refine i_ixT hu ix1 fun z hz => ?_
    repeat (first | walk_at "rd" | walk_at "br")
    refine ⟨c, v, hd, z, t, rfl, hz, ht, hok, fun H' k => ?_⟩
    walk_at "rd"
    exact q H' k
  | all cs =>
    rw [Cond.ok] at hok
    walk_at "rd"; refine i_ixTs hu ix0 ?_
    repeat (first | walk_at "rd" | walk_at "br")
    refine i_ixT hu ix1 fun z hz => ?_
    rw [condDs_map] at hz
    refine go_lcT (M := []) hz (by rw [List.length_map]; omega) (fun i acc _ => acc = ((cs.take i).map (holds v hd)).map V.bl) (fun i acc H1 H2 D _ _ p => p) rfl (fun i d x acc H1 D hi hx k hD hacc hl p R1 R0 r1 r0 => ?_) (fun l H2 acc k nl hl' hle p => ?_)
    · refine' t_yes (by decide) (by walk_at "set") ?_
      rw [List.getElem?_map] at hi
      obtain ⟨c, hc, rfl⟩ := Option.map_eq_some_iff.mp hi
      repeat (first | walk_at "rd" | walk_at "br")
      refine ⟨c, v, hd, x, t, rfl, hx, ht.up k, okAll_len hok.1 hc, fun H' k' => ?_⟩
      refine r1 _ H' (k'.get0 hacc) (k.trans k') ?_
      rw [p, ← take_map_next hc, List.map_append]
      rfl
    · walk_at "rd"
      refine ⟨l, (cs.map (holds v hd)), rfl, SqL.of ?_, ?_⟩
      · rw [hl', p, List.length_map, List.take_length]
      · have e := q H2 k
        rw [holds, holdsAll_eq] at e
        exact e
  | any cs =>
    rw [Cond.ok] at hok
    walk_at "rd"; refine i_ixTs hu ix0 ?_
    repeat (first | walk_at "rd" | walk_at "br")
    refine i_ixT hu ix1 fun z hz => ?_
    rw [condDs_map] at hz
    refine go_lcT (M := []) hz (by rw [List.length_map]; omega) (fun i acc _ => acc = ((cs.take i).map (holds v hd)).map V.bl) (fun i acc H1 H2 D _ _ p => p) rfl (fun i d x acc H1 D hi hx k hD hacc hl p R1 R0 r1 r0 => ?_) (fun l H2 acc k nl hl' hle p => ?_)
    · refine' t_yes (by decide) (by walk_at "set") ?_
      rw [List.getElem?_map] at hi
      obtain ⟨c, hc, rfl⟩ := Option.map_eq_some_iff.mp hi
      repeat (first | walk_at "rd" | walk_at "br")
      refine ⟨c, v, hd, x, t, rfl, hx, ht.up k, okAll_len hok.1 hc, fun H' k' => ?_⟩
      refine r1 _ H' (k'.get0 hacc) (k.trans k') ?_
      rw [p, ← take_map_next hc, List.map_append]
      rfl
    · walk_at "rd"
      refine ⟨l, (cs.map (holds v hd)), rfl, SqL.of ?_, ?_⟩
      · rw [hl', p, List.length_map, List.take_length]
      · have e := q H2 k
        rw [holds, holdsAny_eq] at e
        exact e
  | empty a =>
    rw [Cond.ok] at hok
    have q := q H Kp.refl
    rw [holds] at q
    walk_at "rd"; refine i_ixTs hu ix0 ?_
    repeat (first | walk_at "rd" | walk_at "br")
    refine i_ixTi hu ix1 ?_
    repeat (first | walk_at "rd" | walk_at "br")
    refine ⟨a, v, hd, t, rfl, ht, hok.src, ?_⟩
    repeat (first | walk_at "rd" | walk_at "br")
    cases e : valAt a v hd with
    | none => rw [e] at q; exact q
    | some z => rw [e] at q; exact q
  | less a b =>
    rw [Cond.ok] at hok
    have q := q H Kp.refl
    rw [holds] at q
    walk_at "rd"; refine i_ixTs hu ix0 ?_
    repeat (first | walk_at "rd" | walk_at "br")
    refine i_ixTi hu ix1 ?_
    repeat (first | walk_at "rd" | walk_at "br")
    refine ⟨a, v, hd, t, rfl, ht, hok.1.src, ?_⟩
    repeat (first | walk_at "rd" | walk_at "br")
    refine i_ixTi hu ix2 ?_
    repeat (first | walk_at "rd" | walk_at "br")
    refine ⟨b, v, hd, t, rfl, ht, hok.2.src, ?_⟩
    cases ea : valAt a v hd with
    | none =>
      rw [ea] at q
      repeat (first | walk_at "rd" | walk_at "br")
      exact q
    | some x =>
      cases eb : valAt b v hd with
      | none =>
        rw [ea, eb] at q
        repeat (first | walk_at "rd" | walk_at "br")
        exact q
      | some y =>
        rw [ea, eb] at q
        repeat (first | walk_at "rd" | walk_at "br")
        exact i_I0 q
  | same a b =>
    rw [Cond.ok] at hok
    have q := q H Kp.refl
    rw [holds] at q
    walk_at "rd"; refine i_ixTs hu ix0 ?_
    repeat (first | walk_at "rd" | walk_at "br")
    refine i_ixTi hu ix1 ?_
    repeat (first | walk_at "rd" | walk_at "br")
    refine ⟨a, v, hd, t, rfl, ht, hok.1.src, ?_⟩
    repeat (first | walk_at "rd" | walk_at "br")
    refine i_ixTi hu ix2 ?_
    repeat (first | walk_at "rd" | walk_at "br")
    refine ⟨b, v, hd, t, rfl, ht, hok.2.src, ?_⟩
    cases ea : valAt a v hd with
    | none =>
      rw [ea] at q
      repeat (first | walk_at "rd" | walk_at "br")
      exact q
    | some x =>
      cases eb : valAt b v hd with
      | none =>
        rw [ea, eb] at q
        repeat (first | walk_at "rd" | walk_at "br")
        exact q
      | some y =>
        rw [ea, eb] at q
        repeat (first | walk_at "rd" | walk_at "br")
        exact i_eqI q
theorem ok_holds (F : FT K mg "holds" s_holds ["condition", "value", "held"]) (T : Tx mg) (G : FG P w K mg base 1 "value_at" ["source", "value", "held"] (spValue K)) : ∀ n, FG P w K mg base (n + 1) "holds" ["condition", "value", "held"] (spHolds K n)
  | 0 => by
    obtain ⟨f, fd, F, m, b⟩ := F.ex
    have no : ∀ vs H Q E, ¬ spHolds K 0 vs H Q E := fun vs H Q E h => by
      obtain ⟨_, _, _, _, _, _, _, _, z, _⟩ := h
      rw [Cond.ok] at z
      exact z
    exact ⟨f, fd, ⟨fun vs H Q E h => absurd h (no vs H Q E), fun A outer s H args us vs Q E _ _ _ _ h => absurd h (no vs H Q E)⟩, m, F.kp, b⟩
  | n + 1 => ok_holds_step F T (G.mono (by omega)) (ok_holds F T G n)
end
/-! ### for i, x in enumerate(t) -/
def ForGoE (K : PySem.W.Frag) (g : TG) (tb : TS) (D : Ends) (σ : L2.St) (vs : List V) (H1 : Hp) : Prop := ∃ a xs, vs = [.ref a] ∧ SqT K H1 a xs ∧ ∃ W : Nat → Nat → L2.St → Hp → Prop, (∃ m, W 0 m σ H1) ∧ ∀ i m σ H, W i m σ H →
  ((IteT K a).stop i H ∧ D.nx σ H) ∨ ((IteT K a).go i H ∧ ∃ N : L2.St → Hp → Prop, (∀ σ' H', N σ' H' → ∃ m', m' < m ∧ W (i + 1) m' σ' H') ∧ ∀ x H', (IteT K a).yld i H x H' → g x σ H' fun σ2 H2 => tb { D with nx := N, ct := N, bk := D.nx } σ2 H2)
section
variable {K : PySem.W.Frag} {σ : L2.St} {H : Hp} {t : TA} {D : Ends} {g : TG} {tb : TS}
theorem i_forE (q : t σ H (ForGoE K g tb D σ)) : tFor (iEnumT K t) g tb D σ H := q
theorem go_forE {ds : List PyData} {v : V} (h : Dt K H v (.tuple ds)) (Pv : Nat → L2.St → Hp → Prop) (h0 : Pv 0 σ H) (hk : ∀ i σ H', Pv i σ H' → Kp [] H H')
    (hs : ∀ (i : Nat) d p σ H' H2, ds[i]? = some d → Pv i σ H' → Kp [] H' H2 → Dt K H2 p (.tuple [.int i, d]) → g p σ H2 fun σ2 H3 => tb { D with nx := Pv (i + 1), ct := Pv (i + 1), bk := D.nx } σ2 H3) (hd : ∀ σ H', Pv ds.length σ H' → D.nx σ H') : ForGoE K g tb D σ [v] H := by
  obtain ⟨a, xs, rfl, h1, h2⟩ := dt_tup h
  have e := h2.length
  refine ⟨a, xs, rfl, h1, fun i m σ H' => m = xs.length - i ∧ i ≤ xs.length ∧ Pv i σ H', ⟨xs.length, by omega, Nat.zero_le _, h0⟩, ?_⟩
  rintro i m σ H' ⟨rfl, hi, p⟩
  have k := hk i σ H' p
  by_cases hlt : i < xs.length
  · refine .inr ⟨⟨xs, xs[i], k.sqt h1, List.getElem?_eq_getElem hlt⟩, Pv (i + 1), fun σ' H2 p' => ⟨xs.length - (i + 1), by omega, rfl, hlt, p'⟩, fun x H2 y => ?_⟩
    obtain ⟨T, z, rfl, hT, rfl, f⟩ := y
    obtain ⟨d, hd1, hd2⟩ := h2.of (f xs (k.sqt h1))
    have kn : Kp [] H' (upd H' T (.tup [.int (i : Nat), z])) := Kp.new hT
    exact hs i d _ σ H' _ hd1 p kn (dt_of upd_same (.cons (.int _) (.one ((hd2.up k).up kn))))
  · obtain rfl : i = xs.length := by omega
    exact .inl ⟨⟨xs, k.sqt h1, Nat.le_refl _⟩, hd σ H' (by rw [← e]; exact p)⟩
end
/-! ### case_for -/
def oN : Option Nat → V
  | none => .non
  | some k => .int k
theorem caseFor_none {v : Int} {h : Held} : ∀ {cs : List Case}, (∀ (j : Nat) (c : Case), cs[j]? = some c → holds v h c.cond = false) → caseFor v h cs = none
  | [], _ => rfl
  | c :: cs, hh => by
    have h0 := hh 0 c rfl
    unfold caseFor
    rw [if_neg (by rw [h0]; exact Bool.false_ne_true), caseFor_none fun j d e => hh (j + 1) d (by simpa using e)]
    rfl
theorem caseFor_some {v : Int} {h : Held} : ∀ {cs : List Case} {i : Nat} {c : Case}, (∀ (j : Nat) (c : Case), j < i → cs[j]? = some c → holds v h c.cond = false) → cs[i]? = some c → holds v h c.cond = true → caseFor v h cs = some i
  | [], _, _, _, e, _ => by simp at e
  | c :: cs, 0, d, _, e, ht => by
    rw [List.getElem?_cons_zero] at e
    cases e
    unfold caseFor
    rw [if_pos ht]
  | c :: cs, i + 1, d, hh, e, ht => by
    have h0 := hh 0 c (by omega) rfl
    unfold caseFor
    rw [if_neg (by rw [h0]; exact Bool.false_ne_true), caseFor_some (i := i) (c := d) (fun j c' hj e' => hh (j + 1) c' (by omega) (by simpa using e')) (by simpa using e) ht]
    rfl
abbrev s_case_for : Stmt := topS 5
theorem sc_case_for : FnScope ["machine", "content", "entry", "standing", "held", "tag", "value", "number", "case"] ["machine", "content", "entry"] (defScope s_case_for) := ⟨rfl, rfl, rfl, by decide +kernel, rfl, by decide +kernel, by decide +kernel⟩
/-- a machine, a content of it and an entry are handed over -/
structure RdArgs (K : PySem.W.Frag) (H : Hp) (vs : List V) (m : Mach) (c : Content) (t : Nat) (v : Int) : Prop where
  ex : ∃ a b e, vs = [a, b, e] ∧ Dt K H a (machD m) ∧ Dt K H b (contD c) ∧ Dt K H e (entryD (t, v))
  ok : m.Ok
  in_ : m.In c
  tag : t < m.tags
def spCase (K : PySem.W.Frag) : Sp := fun vs H Q _ => ∃ m c t v, RdArgs K H vs m c t v ∧ ∀ H', Kp [] H H' → Q (oN (caseFor v c.2 (m.cases c.1 t))) H'
theorem ix0 {α : Type} {d : α} {ds : List α} : atI (d :: ds) 0 = some d := atI_nat (j := 0) rfl
theorem ix1 {α : Type} {c d : α} {ds : List α} : atI (c :: d :: ds) 1 = some d := atI_nat (j := 1) rfl
theorem ix2 {α : Type} {b c d : α} {ds : List α} : atI (b :: c :: d :: ds) 2 = some d := atI_nat (j := 2) rfl
theorem ix3 {α : Type} {a b c d : α} {ds : List α} : atI (a :: b :: c :: d :: ds) 3 = some d := atI_nat (j := 3) rfl
section
variable {P : Program} {w : World} {K : PySem.W.Frag} {mg : Str → Option Value} {base : Heap}
theorem ok_case_for (F : FT K mg "case_for" s_case_for ["machine", "content", "entry"]) (T : Tx mg) (G_holds : FG P w K mg base 4 "holds" ["condition", "value", "held"] (spHolds K 3)) : FG P w K mg base 5 "case_for" ["machine", "content", "entry"] (spCase K) := by
  refine F.ok sc_case_for (fun vs H Q E h => ?_) (fun f cdv A outer s H vs Q E hr h => ?_)
  · obtain ⟨_, _, _, _, ⟨⟨_, _, _, rfl, _⟩, _⟩, _⟩ := h
    rfl
  obtain ⟨m, c, t, v, ⟨⟨am, ac, ae, rfl, hm, hc, he⟩, mok, cin, htg⟩, q⟩ := h
  have sc := sc_case_for
  refine ⟨_, (pss_cons (ps_asg (pv 1) (pg_tup (n := 2) rfl (pgs_cons (pg_name (i := 3) sc.nd rfl (.inl rfl)) (pgs_cons (pg_name (i := 4) sc.nd rfl (.inl rfl)) pgs_nil))))
    (pss_cons (ps_asg (pv 2) (pg_tup (n := 2) rfl (pgs_cons (pg_name (i := 5) sc.nd rfl (.inl rfl)) (pgs_cons (pg_name (i := 6) sc.nd rfl (.inl rfl)) pgs_nil))))
    (pss_cons (ps_for PassesOwn.never rfl (pi_enumT (by rfl) T.b_enumerate (pa_cons (pe_ix ix_tup (pe_ix ix_tup (pe_ix ix_tup (pv 0) pe_int (fun _ _ => rfl)) (pv 3) (fun _ _ => rfl)) (pv 5) (fun _ _ => rfl)) pa_nil)) (pg_tup (n := 2) rfl (pgs_cons (pg_name (i := 7) sc.nd rfl (.inl rfl)) (pgs_cons (pg_name (i := 8) sc.nd rfl (.inl rfl)) pgs_nil)))
    (pss_one (ps_if (pt_val (pe_cg G_holds hr (by rfl) (pa_cons (pe_ix ix_tup (pv 8) pe_int (fun _ _ => rfl)) (pa_cons (pv 6) (pa_cons (pv 4) pa_nil)))))
    (pss_one (ps_ret (pv 7)))
    pss_nil)))
    (pss_one (ps_ret pe_non))))), ?_⟩
  refine' i_start (by walk_at "set") ?_
  obtain ⟨row, cs, hrow, hcs, ecs, hlen, hcok⟩ := mok.row cin.st htg
  walk_at "rd"
  refine' i_gtup2 hc (by walk_at "set") fun z1 z2 d1 d2 => ?_
  obtain rfl := dt_int d1
  walk_at "rd"
  refine' i_gtup2 he (by walk_at "set") fun z3 z4 d3 d4 => ?_
  obtain rfl := dt_int d3
  obtain rfl := dt_int d4
  walk_at "rd"
  refine i_forE ?_
  walk_at "rd"
  refine i_ixT hm ix2 fun w1 h1 => ?_
  walk_at "rd"
  refine i_ixT h1 (atI_mapn hrow) fun w2 h2 => ?_
  walk_at "rd"
  refine i_ixT h2 (atI_mapn hcs) fun w3 h3 => ?_
  walk_at "rd"
  refine go_forE h3 (fun i σ H' => Kp [] H H' ∧ (∀ j c', j < i → cs[j]? = some c' → holds v c.2 c'.cond = false) ∧ ∃ y7 y8, σ = [some am, some ac, some ae, some (.int c.1), some z2, some (.int t), some (.int v), y7, y8]) ⟨Kp.refl, fun j c' hj => absurd hj (Nat.not_lt_zero _), none, none, rfl⟩ (fun i σ H' p => p.1) (fun i d p σ H' H2 hi pv k hp => ?_) (fun σ H' p => ?_)
  · obtain ⟨k1, hno, y7, y8, rfl⟩ := pv
    rw [List.getElem?_map] at hi
    obtain ⟨c', hc', rfl⟩ := Option.map_eq_some_iff.mp hi
    refine' i_gtup2 hp (by walk_at "set") fun z5 z6 d5 d6 => ?_
    obtain rfl := dt_int d5
    walk_at "rd"
    refine i_ixT d6 ix0 fun w4 h4 => ?_
    walk_at "rd"
    have cok := hcok c' (List.mem_of_getElem? hc')
    refine ⟨c'.cond, v, c.2, w4, z2, rfl, h4, (d2.up k1).up k, ?_, fun H3 k3 => ?_⟩
    · have e := cok.cond
      rw [← cin.len] at e
      exact e
    · walk_at "rd"
      refine ite2 (fun e => ?_) (fun e => ?_)
      · walk_at "rd"
        have e1 : caseFor v c.2 (m.cases c.1 t) = some i := by
          rw [ecs]
          exact caseFor_some hno hc' e
        have q1 := q H3 ((k1.trans k).trans k3)
        rw [e1] at q1
        exact q1
      · walk_at "rd"
        refine ⟨(k1.trans k).trans k3, fun j d hj hd => ?_, _, _, rfl⟩
        by_cases hji : j < i
        · exact hno j d hji hd
        · obtain rfl : j = i := by omega
          rw [hc'] at hd
          cases hd
          exact Bool.eq_false_iff.mpr e
  · obtain ⟨k1, hno, y7, y8, rfl⟩ := p
    walk_at "rd"
    have e1 : caseFor v c.2 (m.cases c.1 t) = none := by
      rw [ecs]
      refine caseFor_none fun j d hd => hno j d ?_ hd
      rw [List.length_map]
      exact (List.getElem?_eq_some_iff.mp hd).1
    have q1 := q H' k1
    rw [e1] at q1
    exact q1

/-! ### read -/
abbrev s_read : Stmt := topS 6
theorem sc_read : FnScope ["machine", "content", "entry", "number", "standing", "held", "tag", "value", "_", "moves", "says", "after", "answer", "said", "source"] ["machine", "content", "entry"] (defScope s_read) := ⟨rfl, rfl, rfl, by decide +kernel, rfl, by decide +kernel, by decide +kernel⟩
def readD (r : Content × Answer) : PyData := .tuple [contD r.1, ansD r.2]
def spRead (K : PySem.W.Frag) : Sp := fun vs H Q _ => ∃ m c t v, RdArgs K H vs m c t v ∧ ∀ u H', Kp [] H H' → Dt K H' u (readD (m.read c t v)) → Q u H'
set_option profiler true in
set_option profiler.threshold 1000 in
theorem ok_read (F : FT K mg "read" s_read ["machine", "content", "entry"]) (T : Tx mg) (G_case_for : FG P w K mg base 5 "case_for" ["machine", "content", "entry"] (spCase K)) (G_value : FG P w K mg base 1 "value_at" ["source", "value", "held"] (spValue K)) : FG P w K mg base 6 "read" ["machine", "content", "entry"] (spRead K) := by
  have G_value_at := G_value.mono (show 1 ≤ 5 by omega)
  refine F.ok sc_read (fun vs H Q E h => ?_) (fun f cdv A outer s H vs Q E hr h => ?_)
  · obtain ⟨_, _, _, _, ⟨⟨_, _, _, rfl, _⟩, _⟩, _⟩ := h
    rfl
  obtain ⟨m, c, t, v, ⟨⟨am, ac, ae, rfl, hm, hc, he⟩, mok, cin, htg⟩, q⟩ := h
  have sc := sc_read
  refine ⟨_, (pss_cons (ps_set (i := 3) sc.nd rfl (.inl rfl) (pe_cg G_case_for hr (by rfl) (pa_cons (pv 0) (pa_cons (pv 1) (pa_cons (pv 2) pa_nil)))))
    (pss_cons (ps_if (pt_cmp (pc_isN (pv 3)) rfl)
    (pss_one (ps_ret (pe_tup (pa_cons (pv 1) (pa_cons (pe_tup pa_nil) pa_nil)))))
    pss_nil)
    (pss_cons (ps_asg (pv 1) (pg_tup (n := 2) rfl (pgs_cons (pg_name (i := 4) sc.nd rfl (.inl rfl)) (pgs_cons (pg_name (i := 5) sc.nd rfl (.inr rfl)) pgs_nil))))
    (pss_cons (ps_asg (pv 2) (pg_tup (n := 2) rfl (pgs_cons (pg_name (i := 6) sc.nd rfl (.inl rfl)) (pgs_cons (pg_name (i := 7) sc.nd rfl (.inr rfl)) pgs_nil))))
    (pss_cons (ps_asg (pe_ix ix_tup (pe_ix ix_tup (pe_ix ix_tup (pe_ix ix_tup (pv 0) pe_int (fun _ _ => rfl)) (pv 4) (fun _ _ => rfl)) (pv 6) (fun _ _ => rfl)) (pv 3) (fun _ _ => rfl)) (pg_tup (n := 4) rfl (pgs_cons (pg_name (i := 8) sc.nd rfl (.inl rfl)) (pgs_cons (pg_name (i := 9) sc.nd rfl (.inl rfl)) (pgs_cons (pg_name (i := 10) sc.nd rfl (.inl rfl)) (pgs_cons (pg_name (i := 11) sc.nd rfl (.inl rfl)) pgs_nil))))))
    (pss_cons (ps_set (i := 12) sc.nd rfl (.inl rfl) (pe_callTy call_tupD (by rfl) T.b_tuple (by decide +kernel) (pa_cons (pe_lc (own := [("said", 13), ("source", 14)]) (g := gTup K 2 (gCons (gName 13) (gCons (gName 14) gNil))) rfl sc.nd (pi_tup (pv 10)) (blkOk_by (own := [("said", 13), ("source", 14)]) (N := ["machine", "content", "entry", "number", "standing", "held", "tag", "value", "_", "moves", "says", "after", "answer", "said", "source"]) (sc := defScope s_read) (by decide +kernel)) (fun _ _ _ _ _ => (pg_tup (n := 2) rfl (pgs_cons (pg_name (i := 13) sc.nd rfl (.inl rfl) (.inr rfl)) (pgs_cons (pg_name (i := 14) sc.nd rfl (.inl rfl) (.inr rfl)) pgs_nil)))) (fun _ _ _ _ _ => pts_nil) (fun _ _ _ _ _ => (pe_tup (pa_cons (pv 13) (pa_cons (pe_cg G_value_at hr (by rfl) (pa_cons (pv 14) (pa_cons (pv 7) (pa_cons (pv 5) pa_nil)))) pa_nil))))) pa_nil)))
    (pss_one (ps_ret (pe_tup (pa_cons (pe_tup (pa_cons (pv 11) (pa_cons (pe_callTy call_tupD (by rfl) T.b_tuple (by decide +kernel) (pa_cons (pe_lc (own := [("source", 14)]) rfl sc.nd (pi_tup (pv 9)) (blkOk_by (own := [("source", 14)]) (N := ["machine", "content", "entry", "number", "standing", "held", "tag", "value", "_", "moves", "says", "after", "answer", "said", "source"]) (sc := defScope s_read) (by decide +kernel)) (fun _ _ _ _ _ => (pg_name (i := 14) sc.nd rfl (.inl rfl))) (fun _ _ _ _ _ => pts_nil) (fun _ _ _ _ _ => (pe_cg G_value_at hr (by rfl) (pa_cons (pv 14) (pa_cons (pv 7) (pa_cons (pv 5) pa_nil)))))) pa_nil)) pa_nil))) (pa_cons (pv 12) pa_nil))))))))))), ?_⟩
  refine' i_start (by walk_at "set") ?_
  obtain ⟨row, cs, hrow, hcs, ecs, hlen, hcok⟩ := mok.row cin.st htg
  walk_at "rd"
  refine ⟨m, c, t, v, ⟨⟨am, ac, ae, rfl, hm, hc, he⟩, mok, cin, htg⟩, fun H1 k1 => ?_⟩
  have hm := hm.up k1
  have hc := hc.up k1
  have he := he.up k1
  rw [ecs]
  have rd : m.read c t v = readC cs c.1 v c.2 := by
    unfold Mach.read
    rw [ecs]
  rw [rd] at q
  unfold readC at q
  cases ek : caseFor v c.2 cs with
  | none =>
    rw [ek] at q
    repeat (first | walk_at "rd" | walk_at "br")
    refine g_tup (K := K) (ds := []) .nil (by decide) fun z1 H2 k2 hz1 => ?_
    walk_at "rd"
    refine g_tup (K := K) (.cons (hc.up k2) (.one hz1)) (by show 2 ≤ 100000; decide) fun z2 H3 k3 hz2 => ?_
    exact q z2 H3 ((k1.trans k2).trans k3) hz2
  | some k =>
    obtain ⟨d, hd, _⟩ := caseFor_lt ek
    have dok := hcok d (List.mem_of_getElem? hd)
    rw [ek] at q
    simp only [hd] at q
    repeat (first | walk_at "rd" | walk_at "br")
    refine' i_gtup2 hc (by walk_at "set") fun z1 z2 d1 d2 => ?_
    obtain rfl := dt_int d1
    walk_at "rd"
    refine' i_gtup2 he (by walk_at "set") fun z3 z4 d3 d4 => ?_
    obtain rfl := dt_int d3
    obtain rfl := dt_int d4
    walk_at "rd"
    refine i_ixT hm ix2 fun w1 h1 => ?_
    walk_at "rd"
    refine i_ixT h1 (atI_mapn hrow) fun w2 h2 => ?_
    walk_at "rd"
    refine i_ixT h2 (atI_mapn hcs) fun w3 h3 => ?_
    walk_at "rd"
    refine i_ixT h3 (atI_mapn hd) fun w4 h4 => ?_
    refine' i_gtup4 h4 (by walk_at "set") fun u1 u2 u3 u4 e1 e2 e3 e4 => ?_
    obtain rfl := dt_int e4
    walk_at "rd"
    have hl : c.2.length = m.regs := cin.len
    refine go_lcT (M := []) e3 (by rw [List.length_map]; have := dok.few; omega) (fun i acc H' => DtAll K H' acc ((d.says.take i).map fun (p : Int × Int) => .tuple [.int p.1, oI (valAt p.2 v c.2)])) (fun i acc H1 H2 D _ k p => p.up k) .nil (fun i dd x acc H2 D hi hx k2 hD hacc hlt p R1 R0 r1 r0 => ?_) (fun l H2 acc k2 nl hl' hle p => ?_)
    · rw [List.getElem?_map] at hi
      obtain ⟨p', hp', rfl⟩ := Option.map_eq_some_iff.mp hi
      refine' t_yes2 hx (by decide) (by decide) (by walk_at "set") fun x1 x2 f1 f2 => ?_
      obtain rfl := dt_int f1
      obtain rfl := dt_int f2
      walk_at "rd"
      refine ⟨p'.2, v, c.2, z2, rfl, d2.up k2, by rw [hl]; exact dok.says p' (List.mem_of_getElem? hp'), ?_⟩
      walk_at "rd"
      refine g_tup (K := K) (.cons (.int _) (.one (dt_oV _))) (by show 2 ≤ 100000; decide) fun y H3 k3 hy => ?_
      refine r1 y H3 (k3.get0 hacc) (k2.trans k3) ?_
      rw [← take_map_next hp']
      exact (p.up k3).append (.one hy)
    · walk_at "rd"
      refine i_tupL hl' p fun p' H3 k3 ha => ?_
      have ha : Dt K H3 p' (ansD (d.says.map fun p => (p.1, valAt p.2 v c.2))) := by
        unfold ansD
        rw [List.map_map]
        rw [List.length_map, List.take_length] at ha
        exact ha
      walk_at "rd"
      refine go_lcT (M := []) ((e2.up k2).up k3) (by rw [List.length_map, dok.len]; have := mok.regs; omega) (fun i acc H' => acc = ((d.moves.take i).map fun s => valAt s v c.2).map oV) (fun i acc H1 H2 D _ _ p => p) rfl (fun i dd x acc H4 D hi hx k4 hD hacc hlt p R1 R0 r1 r0 => ?_) (fun l H4 acc k4 nl hl' hle p => ?_)
      · rw [List.getElem?_map] at hi
        obtain ⟨p', hp', rfl⟩ := Option.map_eq_some_iff.mp hi
        obtain rfl := dt_int hx
        refine' t_yes (by decide) (by walk_at "set") ?_
        walk_at "rd"
        refine ⟨p', v, c.2, z2, rfl, ((d2.up k2).up k3).up k4, by rw [hl]; exact dok.moves p' (List.mem_of_getElem? hp'), ?_⟩
        refine r1 _ _ hacc k4 ?_
        rw [← take_map_next hp', List.map_append, p]
        rfl
      · walk_at "rd"
        rw [List.length_map, List.take_length] at p
        refine i_tupL (ds := (d.moves.map fun s => valAt s v c.2).map oI) hl' (by rw [p]; exact dtAll_oV _) fun p5 H5 k5 hb => ?_
        walk_at "rd"
        refine g_tup (K := K) (.cons (.int _) (.one hb)) (by show 2 ≤ 100000; decide) fun y1 H6 k6 hy1 => ?_
        walk_at "rd"
        refine g_tup (K := K) (.cons hy1 (.one (((ha.up k4).up k5).up k6))) (by show 2 ≤ 100000; decide) fun y2 H7 k7 hy2 => ?_
        exact q y2 H7 (((((((k1.trans k2)).trans k3).trans k4).trans k5).trans k6).trans k7) hy2
end
/-! ### values that are held, their set, their ranks -/
theorem vals_take {h : Held} {i : Nat} {o : Option Int} (hi : h[i]? = some o) : vals (h.take (i + 1)) = vals (h.take i) ++ o.toList := by
  unfold vals
  rw [List.take_add_one, hi, List.filterMap_append]
  cases o <;> rfl
theorem vals_le (h : Held) : (vals h).length ≤ h.length := List.length_filterMap_le _ _
def ScGoT (K : PySem.W.Frag) (w : World) (g : TG) (tt : TT) (te : TE) (vs : List Nat) (σ : L2.St) (Q : VK) (x : V) (H1 : Hp) : Prop := ∃ a, x = .ref a ∧ (∃ xs, SqT K H1 a xs) ∧ ∀ D, H1 D = none → ∃ W : Nat → Nat → Hp → Prop, (∃ m, W 0 m (upd H1 D (SetO w D (fun _ => false) 0))) ∧ ∀ i m H, W i m H →
  ((Itt K a).stop i H ∧ Q (.ref D) H) ∨ ((Itt K a).go i H ∧ ∃ Nx : Hp → Prop, (∀ H', Nx H' → ∃ m', m' < m ∧ W (i + 1) m' H') ∧ ∀ x H', (Itt K a).yld i H x H' → g x (wipe σ vs) H' fun σ2 H2 => wipe σ2 vs = wipe σ vs ∧ tt σ2 H2 fun b H3 =>
    if b = true then te σ2 H3 fun y H4 => ∃ (c : Int) (S : Int → Bool) (n : Nat), y = .int c ∧ H4 D = some (SetO w D S n) ∧ n + 1 < scanBound ∧ Nx (upd H4 D (SetO w D (fun j => S j || decide (j = c)) (if S c = true then n else n + 1))) else Nx H3)
section
variable {K : PySem.W.Frag} {w : World} {σ : L2.St} {H : Hp} {Q : VK} {g : TG} {tt : TT} {te tl : TE} {vs : List Nat} {j : Nat}
theorem i_scT (q : tl σ H (ScGoT K w g tt te vs σ Q)) : tScI w (iTup K tl) g tt te vs σ H Q := q
/-- {x for x in h if x is not None} -/
theorem go_scVals {h : Held} {v : V} (hv : Dt K H v (heldD h)) (hl : h.length ≤ 1000) (hj : j ∈ vs) (get : ∀ u, ((wipe σ vs).set j (some u))[j]? = some (some u))
    (q : ∀ p H2 S n, Kp [] H H2 → H2 p = some (SetO w p S n) → (∀ k, S k = true ↔ k ∈ vals h) → Q (.ref p) H2) : ScGoT K w (gName j) (tB (tNotN (tVar j))) (tVar j) vs σ Q v H := by
  obtain ⟨a, xs, rfl, h1, h2⟩ := dt_tup hv
  obtain rfl := dtAll_oI h2
  refine ⟨a, rfl, ⟨_, h1⟩, fun D hD => ?_⟩
  refine ⟨fun i m H' => m = h.length - i ∧ i ≤ h.length ∧ Kp [] H H' ∧ ∃ S c, H' D = some (SetO w D S c) ∧ c ≤ i ∧ ∀ k, S k = true ↔ k ∈ vals (h.take i), ⟨h.length, by omega, Nat.zero_le _, Kp.new hD, _, 0, upd_same, Nat.le_refl _, fun k => ?_⟩, ?_⟩
  · rw [List.take_zero]
    constructor
    · intro z; cases z
    · intro z; cases z
  rintro i m H1 ⟨rfl, hi, k1, S, c, hS, hc, hmem⟩
  by_cases hlt : i < h.length
  · have hget : (h.map oV)[i]? = some (oV h[i]) := by rw [List.getElem?_map, List.getElem?_eq_getElem hlt]; rfl
    refine .inr ⟨⟨_, _, k1.sqt h1, hget⟩, fun H' => i + 1 ≤ h.length ∧ Kp [] H H' ∧ ∃ S c, H' D = some (SetO w D S c) ∧ c ≤ i + 1 ∧ ∀ k, S k = true ↔ k ∈ vals (h.take (i + 1)), fun H' p => ⟨h.length - (i + 1), by omega, rfl, p⟩, fun x H' y => ?_⟩
    obtain ⟨rfl, y⟩ := y
    have ex : oV h[i] = x := Option.some.inj (hget.symm.trans (y _ (k1.sqt h1)))
    subst ex
    refine ⟨wipe1 hj, _, get _, ?_⟩
    have vt := vals_take (List.getElem?_eq_getElem hlt)
    cases e : h[i] with
    | none =>
      rw [e] at vt
      refine ⟨false, rfl, ?_⟩
      refine ifF rfl ⟨hlt, k1, S, c, hS, by omega, fun k => ?_⟩
      rw [vt, Option.toList_none, List.append_nil]
      exact hmem k
    | some z =>
      rw [e] at vt
      refine ⟨true, rfl, ifT rfl ⟨_, get _, z, S, c, rfl, hS, by unfold scanBound; omega, hlt, ?_, _, _, upd_same, ?_, fun k => ?_⟩⟩
      · exact k1.fresh (Kp.wr (by rw [hS]; trivial)) fun b hb => .inr (by rw [List.mem_singleton.mp hb]; exact hD)
      · split <;> omega
      · rw [vt, Bool.or_eq_true, hmem k, decide_eq_true_eq, List.mem_append, Option.toList_some, List.mem_singleton]
  · obtain rfl : i = h.length := by omega
    rw [List.take_length] at hmem
    exact .inl ⟨⟨_, k1.sqt h1, by rw [List.length_map]; exact Nat.le_refl _⟩, q D H1 S c k1 hS hmem⟩
/-- [x for x in h if x is not None] -/
theorem go_lcVals {h : Held} {v : V} (hv : Dt K H v (heldD h)) (hl : h.length ≤ 1000) (hj : j ∈ vs) (get : ∀ u, ((wipe σ vs).set j (some u))[j]? = some (some u))
    (q : ∀ l H2, Kp [] H H2 → H l = none → H2 l = some (.lst ((vals h).map V.int)) → Q (.ref l) H2) : LcGoT K (gName j) (tB (tNotN (tVar j))) (tVar j) vs σ Q v H := by
  refine go_lcT (M := []) hv (by rw [List.length_map]; omega) (fun i acc _ => acc = (vals (h.take i)).map V.int) (fun i acc H1 H2 D _ _ p => p) rfl (fun i d u acc H1 D hi hu k hD hacc hle p R1 R0 r1 r0 => ?_) (fun l H2 acc k hn hl' hle p => ?_)
  · rw [List.getElem?_map] at hi
    obtain ⟨o, ho, rfl⟩ := Option.map_eq_some_iff.mp hi
    obtain rfl := dt_oI hu
    have vt := vals_take ho
    refine t_test hj rfl ⟨_, get _, ?_⟩
    cases o with
    | none =>
      refine ⟨false, rfl, ifF rfl (r0 _ hacc k ?_)⟩
      rw [vt, p, Option.toList_none, List.append_nil]
    | some z =>
      refine ⟨true, rfl, ifT rfl ⟨_, get _, r1 _ _ hacc k ?_⟩⟩
      rw [vt, p, List.map_append]
      rfl
  · rw [List.length_map, List.take_length] at p
    rw [p] at hl'
    exact q l H2 k hn hl'
theorem i_index {l : Addr} {ns : List Int} {x : Int} (h : SqL K H l (ns.map V.int)) (hp : ns.Pairwise (· < ·)) (hx : x ∈ ns) (q : Q (.int (below ns x : Nat)) H) : rIndex K (.ref l) [.int x] H Q := by
  obtain ⟨i, hi⟩ := List.mem_iff_getElem?.mp hx
  have e := below_sorted hp hi
  rw [e] at q
  have fl : (ns.map V.int).all flatV = true := by
    rw [List.all_eq_true]
    intro y hy
    obtain ⟨z, _, rfl⟩ := List.mem_map.mp hy
    rfl
  refine ⟨l, ns.map V.int, .int x, i, .int x, rfl, rfl, h, rfl, fl, by rw [List.getElem?_map, hi]; rfl, by simp [eqV], fun m z hm hz => ?_, q⟩
  rw [List.getElem?_map] at hz
  obtain ⟨y, hy, rfl⟩ := Option.map_eq_some_iff.mp hz
  have ne : y ≠ x := fun e => by
    have a := below_sorted hp hy
    rw [e] at a
    have b := below_sorted hp hi
    omega
  simp [eqV, ne]
end
section
variable {K : PySem.W.Frag} {w : World} {H : Hp} {Q : VK}
theorem i_setL {l : Addr} {ks : List Int} (h : SqL K H l (ks.map V.int)) (hb : ks.length ≤ 1000) (q : ∀ p c H', Kp [] H H' → H' p = some (SetO w p (fun j => decide (j ∈ ks)) c) → c ≤ ks.length → Q (.ref p) H') : rSetL1 K w [.ref l] H Q :=
  ⟨l, ks, rfl, h, hb, fun p c hp hc => q p c _ (Kp.new hp) upd_same hc⟩
theorem i_sorted {p : Addr} {S : Int → Bool} {n : Nat} (h : H p = some (SetO w p S n)) (hn : n < 64) (q : ∀ (l : Addr) (ns : List Int) (H' : Hp), Kp [] H H' → H l = none → H' l = some (.lst (ns.map V.int)) → ns.Pairwise (· < ·) → (∀ k, k ∈ ns ↔ S k = true) → Q (.ref l) H') : rSortedSet w [.ref p] H Q :=
  ⟨p, S, n, rfl, h, hn, fun ns l hup hm _ hl => q l ns _ (Kp.new hl) hl upd_same hup hm⟩
end
/-- the sorted distinct values -/
structure Known (h : Held) (ns : List Int) : Prop where
  up : ns.Pairwise (· < ·)
  mem : ∀ k, k ∈ ns ↔ k ∈ vals h
theorem Known.nodup {h : Held} {ns : List Int} (k : Known h ns) : ns.Nodup := k.up.imp fun l e => by omega
theorem Known.rank {h : Held} {ns : List Int} (k : Known h ns) (x : Int) : below ns x = rankOf h x := below_same k.nodup dd_nodup (fun y => (k.mem y).trans mem_dd.symm) x
section
variable {P : Program} {w : World} {K : PySem.W.Frag} {mg : Str → Option Value} {base : Heap}
abbrev s_ranks_of : Stmt := topS 8
theorem sc_ranks_of : FnScope ["held", "known", "value"] ["held"] (defScope s_ranks_of) := ⟨rfl, rfl, rfl, by decide +kernel, rfl, by decide +kernel, by decide +kernel⟩
def spRanks (K : PySem.W.Frag) : Sp := fun vs H Q _ => ∃ (h : Held) (v : V), vs = [v] ∧ Dt K H v (heldD h) ∧ h.length ≤ 60 ∧ ∀ u H', Kp [] H H' → Dt K H' u (heldD (ranks h)) → Q u H'
theorem ok_ranks_of (F : FT K mg "ranks_of" s_ranks_of ["held"]) (T : Tx mg) : FG P w K mg base 1 "ranks_of" ["held"] (spRanks K) := by
  refine F.ok sc_ranks_of (fun vs H Q E h => ?_) (fun f cdv A outer s H vs Q E hr h => ?_)
  · obtain ⟨_, _, rfl, _⟩ := h
    rfl
  obtain ⟨h, v, rfl, hv, hlen, q⟩ := h
  have sc := sc_ranks_of
  refine ⟨_, (pss_cons (ps_set (i := 1) sc.nd rfl (.inr rfl) (pe_callB (cr_sortedSet rfl) (by rfl) T.b_sorted (by decide +kernel) (pa_cons (pe_callTy (call_setL rfl) (by rfl) T.b_set (by decide +kernel) (pa_cons (pe_lc (te := (tVar 2)) (own := [("value", 2)]) rfl sc.nd (pi_tup (pv 0)) (blkOk_by (own := [("value", 2)]) (N := ["held", "known", "value"]) (sc := defScope s_ranks_of) (by decide +kernel)) (fun _ _ _ _ _ => (pg_name (i := 2) sc.nd rfl (.inl rfl))) (fun _ _ _ _ _ => (pts_one (pt_cmp (pc_notN (pv 2)) rfl))) (fun _ _ _ _ _ => (pv 2))) pa_nil)) pa_nil)))
    (pss_one (ps_ret (pe_callTy call_tupD (by rfl) T.b_tuple (by decide +kernel) (pa_cons (pe_lc (te := (tIf (tB (tIsN (tVar 2))) (tC .non) (tBM K "list" (rIndex K) (tVar 1) (tCons (tVar 2) tNil)))) (own := [("value", 2)]) rfl sc.nd (pi_tup (pv 0)) (blkOk_by (own := [("value", 2)]) (N := ["held", "known", "value"]) (sc := defScope s_ranks_of) (by decide +kernel)) (fun _ _ _ _ _ => (pg_name (i := 2) sc.nd rfl (.inl rfl))) (fun _ _ _ _ _ => pts_nil) (fun _ _ _ _ _ => (pe_ifExp (pt_cmp (pc_isN (pv 2)) rfl) pe_non (pe_bm PySem.F.plainAttrs_list PySem.F.slot_list_index PySem.F.type_list_index mt_index (pv 1) (pa_cons (pv 2) pa_nil))))) pa_nil))))), ?_⟩
  refine' i_start (by walk_at "set") ?_
  walk_at "rd"
  refine go_lcVals hv (by omega) (by decide) (fun _ => rfl) fun l H1 k1 nl hl => ?_
  walk_at "rd"
  have vl := vals_le h
  refine i_setL (SqL.of hl) (by omega) fun p c H2 k2 e2 hc => ?_
  walk_at "rd"
  refine i_sorted e2 (by omega) fun l2 ns H3 k3 nl3 e3 hup hmem => ?_
  have kn : Known h ns := ⟨hup, fun k => by rw [hmem, decide_eq_true_eq]⟩
  walk_at "rd"
  have hv3 := ((hv.up k1).up k2).up k3
  refine go_lcT (M := []) hv3 (by rw [List.length_map]; omega) (fun i acc _ => acc = ((h.take i).map (Option.map fun x => ((rankOf h x : Nat) : Int))).map oV) (fun i acc H1 H2 D _ _ p => p) rfl (fun i d u acc H4 D hi hu k hD hacc hle p R1 R0 r1 r0 => ?_) (fun l4 H4 acc k4 nl4 hl4 hle p => ?_)
  · rw [List.getElem?_map] at hi
    obtain ⟨o, ho, rfl⟩ := Option.map_eq_some_iff.mp hi
    obtain rfl := dt_oI hu
    refine' t_yes (by decide) (by walk_at "set") ?_
    have hend : ∀ (y : V), y = oV (o.map fun x => ((rankOf h x : Nat) : Int)) → acc ++ [y] = ((h.take (i + 1)).map (Option.map fun x => ((rankOf h x : Nat) : Int))).map oV := fun y e => by
      rw [e, p, ← take_map_next ho, List.map_append]
      rfl
    cases o with
    | none =>
      repeat (first | walk_at "rd" | walk_at "br")
      exact r1 _ _ hacc k (hend _ rfl)
    | some x =>
      repeat (first | walk_at "rd" | walk_at "br")
      refine ⟨ty_lst (SqL.of (k.get0 e3)), ?_⟩
      walk_at "rd"
      have hx : x ∈ ns := (kn.mem x).mpr (mem_vals.mpr (List.mem_of_getElem? ho))
      refine i_index (SqL.of (k.get0 e3)) hup hx (r1 _ _ hacc k (hend _ ?_))
      rw [kn.rank]
      rfl
  · rw [List.length_map, List.take_length] at p
    walk_at "rd"
    refine i_tupL (ds := (ranks h).map oI) hl4 (by rw [p]; exact dtAll_oV _) fun u H5 k5 hu => ?_
    exact q u H5 ((((k1.trans k2).trans k3).trans k4).trans k5) hu
abbrev s_l_ranks : Stmt := topS 32
theorem sc_l_ranks : FnScope ["_law_held", "_law_value", "_law_known", "_law_found"] ["_law_held"] (defScope s_l_ranks) := ⟨rfl, rfl, rfl, by decide +kernel, rfl, by decide +kernel, by decide +kernel⟩
theorem ok_l_ranks (F : FT K mg "_law_ranks" s_l_ranks ["_law_held"]) (T : Tx mg) : FG P w K mg base 1 "_law_ranks" ["_law_held"] (spRanks K) := by
  refine F.ok sc_l_ranks (fun vs H Q E h => ?_) (fun f cdv A outer s H vs Q E hr h => ?_)
  · obtain ⟨_, _, rfl, _⟩ := h
    rfl
  obtain ⟨h, v, rfl, hv, hlen, q⟩ := h
  have sc := sc_l_ranks
  refine ⟨_, (pss_cons (ps_set (i := 2) sc.nd rfl (.inl rfl) (pe_callB (cr_sortedSet rfl) (by rfl) T.b_sorted (by decide +kernel) (pa_cons (pe_callTy (call_setL rfl) (by rfl) T.b_set (by decide +kernel) (pa_cons (pe_lc (te := (tVar 1)) (own := [("_law_value", 1)]) rfl sc.nd (pi_tup (pv 0)) (blkOk_by (own := [("_law_value", 1)]) (N := ["_law_held", "_law_value", "_law_known", "_law_found"]) (sc := defScope s_l_ranks) (by decide +kernel)) (fun _ _ _ _ _ => (pg_name (i := 1) sc.nd rfl (.inl rfl))) (fun _ _ _ _ _ => (pts_one (pt_cmp (pc_notN (pv 1)) rfl))) (fun _ _ _ _ _ => (pv 1))) pa_nil)) pa_nil)))
    (pss_cons (ps_set (i := 3) sc.nd rfl (.inl rfl) (pe_lst pa_nil))
    (pss_cons (ps_for PassesOwn.never rfl (pi_tup (pv 0)) (pg_name (i := 1) sc.nd rfl (.inl rfl))
    (pss_one (ps_if (pt_cmp (pc_isN (pv 1)) rfl)
    (pss_one (ps_expr (pe_bm PySem.F.plainAttrs_list PySem.F.slot_list_append PySem.F.type_list_append mt_append (pv 3) (pa_cons pe_non pa_nil))))
    (pss_one (ps_expr (pe_bm PySem.F.plainAttrs_list PySem.F.slot_list_append PySem.F.type_list_append mt_append (pv 3) (pa_cons (pe_bm PySem.F.plainAttrs_list PySem.F.slot_list_index PySem.F.type_list_index mt_index (pv 2) (pa_cons (pv 1) pa_nil)) pa_nil)))))))
    (pss_one (ps_ret (pe_callTy call_tupD (by rfl) T.b_tuple (by decide +kernel) (pa_cons (pv 3) pa_nil))))))), ?_⟩
  refine' i_start (by walk_at "set") ?_
  walk_at "rd"
  refine go_lcVals hv (by omega) (by decide) (fun _ => rfl) fun l H1 k1 nl hl => ?_
  walk_at "rd"
  have vl := vals_le h
  refine i_setL (SqL.of hl) (by omega) fun p c H2 k2 e2 hc => ?_
  walk_at "rd"
  refine i_sorted e2 (by omega) fun l2 ns H3 k3 nl3 e3 hup hmem => ?_
  have kn : Known h ns := ⟨hup, fun k => by rw [hmem, decide_eq_true_eq]⟩
  walk_at "rd"
  refine g_lst (Nat.zero_le _) fun l4 H4 k4 nl4 e4 => ?_
  walk_at "rd"
  have hv4 := (((hv.up k1).up k2).up k3).up k4
  have k3' := k4.get0 e3
  refine go_forT (M := [l4]) hv4 (fun i σ H' => Kp [l4] H4 H' ∧ H' l4 = some (.lst (((h.take i).map (Option.map fun x => ((rankOf h x : Nat) : Int))).map oV)) ∧ ∃ y1, σ = [some v, y1, some (.ref l2), some (.ref l4)]) ⟨Kp.refl, e4, none, rfl⟩ (fun i σ H' p => p.1) (fun i d u σ H' hi p hu => ?_) (fun σ H' p => ?_)
  · obtain ⟨k5, e5, y1, rfl⟩ := p
    rw [List.getElem?_map] at hi
    obtain ⟨o, ho, rfl⟩ := Option.map_eq_some_iff.mp hi
    obtain rfl := dt_oI hu
    have len : ((((h.take i).map (Option.map fun x => ((rankOf h x : Nat) : Int))).map oV)).length ≤ 100000 := by
      rw [List.length_map, List.length_map, List.length_take]
      omega
    have hend : ∀ (y : V), y = oV (o.map fun x => ((rankOf h x : Nat) : Int)) → (((h.take i).map (Option.map fun x => ((rankOf h x : Nat) : Int))).map oV) ++ [y] = ((h.take (i + 1)).map (Option.map fun x => ((rankOf h x : Nat) : Int))).map oV := fun y e => by
      rw [e, ← take_map_next ho, List.map_append]
      rfl
    cases o with
    | none =>
      repeat (first | walk_at "rd" | walk_at "br")
      refine ⟨ty_lst (SqL.of e5), ?_⟩
      walk_at "rd"
      refine i_append e5 len fun H6 k6 e6 => ?_
      exact ⟨k5.trans k6, e6.trans (congrArg (fun z => some (HO.lst z)) (hend .non rfl)), _, rfl⟩
    | some x =>
      repeat (first | walk_at "rd" | walk_at "br")
      refine ⟨ty_lst (SqL.of e5), ?_⟩
      have ne : l2 ∉ [l4] := fun z => by
        have e := List.mem_singleton.mp z
        rw [e, nl4] at e3
        cases e3
      have s2 : SqL K H' l2 (ns.map V.int) := SqL.of (k5.get ne k3')
      walk_at "rd"
      refine ⟨ty_lst s2, ?_⟩
      walk_at "rd"
      have hx : x ∈ ns := (kn.mem x).mpr (mem_vals.mpr (List.mem_of_getElem? ho))
      refine i_index s2 hup hx ?_
      walk_at "rd"
      refine i_append e5 len fun H6 k6 e6 => ?_
      exact ⟨k5.trans k6, e6.trans (congrArg (fun z => some (HO.lst z)) (hend (.int (below ns x : Nat)) (by rw [kn.rank]; rfl))), _, rfl⟩
  · obtain ⟨k5, e5, y1, rfl⟩ := p
    rw [List.length_map, List.take_length] at e5
    walk_at "rd"
    refine i_tupL (ds := (ranks h).map oI) e5 (dtAll_oV _) fun u H6 k6 hu => ?_
    have n4 : H l4 = none := ((k1.trans k2).trans k3).free nl4
    have kk : Kp [] H H' := (((k1.trans k2).trans k3).trans k4).fresh k5 fun z hz => .inr (by rw [List.mem_singleton.mp hz]; exact n4)
    exact q u H6 (kk.trans k6) hu
/-! ### how many -/
abbrev s_spots_of : Stmt := topS 10
theorem sc_spots_of : FnScope ["ranks", "rank"] ["ranks"] (defScope s_spots_of) := ⟨rfl, rfl, rfl, by decide +kernel, rfl, by decide +kernel, by decide +kernel⟩
theorem many_of {h : Held} {S : Int → Bool} {n : Nat} (hS : ∀ k, S k = true ↔ k ∈ vals h) (c : ∃ ks : List Int, ks.Nodup ∧ ks.length = n ∧ ∀ k, k ∈ ks ↔ S k = true) : n = many h := by
  obtain ⟨ks, nd, e, m⟩ := c
  rw [← e]
  exact len_same nd dd_nodup fun k => ((m k).trans (hS k)).trans mem_dd.symm
def spSpots (K : PySem.W.Frag) : Sp := fun vs H Q _ => ∃ (h : Held) (v : V), vs = [v] ∧ Dt K H v (heldD h) ∧ h.length ≤ 60 ∧ ∀ H', Kp [] H H' → Q (.int (2 * (many h : Nat) + 1)) H'
theorem ok_spots_of (F : FT K mg "spots_of" s_spots_of ["ranks"]) (T : Tx mg) : FG P w K mg base 1 "spots_of" ["ranks"] (spSpots K) := by
  refine F.ok sc_spots_of (fun vs H Q E h => ?_) (fun f cdv A outer s H vs Q E hr h => ?_)
  · obtain ⟨_, _, rfl, _⟩ := h
    rfl
  obtain ⟨h, v, rfl, hv, hlen, q⟩ := h
  have sc := sc_spots_of
  refine ⟨_, (pss_one (ps_ret (pe_op op_add (pe_op op_mul pe_int (pe_callB call_lenSO (by rfl) T.b_len PySem.boot_len (pa_cons (pe_scI (te := (tVar 1)) (own := [("rank", 1)]) rfl sc.nd (pi_tup (pv 0)) (blkOk_by (own := [("rank", 1)]) (N := ["ranks", "rank"]) (sc := defScope s_spots_of) (by decide +kernel)) (fun _ _ _ _ _ => (pg_name (i := 1) sc.nd rfl (.inl rfl))) (fun _ _ _ _ _ => (pts_one (pt_cmp (pc_notN (pv 1)) rfl))) (fun _ _ _ _ _ => (pv 1))) pa_nil))) pe_int))), ?_⟩
  refine' i_start (by walk_at "set") ?_
  walk_at "rd"
  refine i_scT ?_
  walk_at "rd"
  refine go_scVals hv (by omega) (by decide) (fun _ => rfl) fun p H2 S n k2 e2 hS => ?_
  walk_at "rd"
  refine ⟨p, S, n, rfl, e2, fun c => ?_⟩
  obtain rfl := many_of hS c
  refine i_I (.inl ⟨by decide, by decide⟩) ?_
  walk_at "rd"
  exact q H2 k2
abbrev s_l_many : Stmt := topS 33
theorem sc_l_many : FnScope ["_law_ranks_here", "_law_rank"] ["_law_ranks_here"] (defScope s_l_many) := ⟨rfl, rfl, rfl, by decide +kernel, rfl, by decide +kernel, by decide +kernel⟩
def spMany (K : PySem.W.Frag) : Sp := fun vs H Q _ => ∃ (h : Held) (v : V), vs = [v] ∧ Dt K H v (heldD h) ∧ h.length ≤ 60 ∧ ∀ H', Kp [] H H' → Q (.int (many h : Nat)) H'
theorem ok_l_many (F : FT K mg "_law_many" s_l_many ["_law_ranks_here"]) (T : Tx mg) : FG P w K mg base 1 "_law_many" ["_law_ranks_here"] (spMany K) := by
  refine F.ok sc_l_many (fun vs H Q E h => ?_) (fun f cdv A outer s H vs Q E hr h => ?_)
  · obtain ⟨_, _, rfl, _⟩ := h
    rfl
  obtain ⟨h, v, rfl, hv, hlen, q⟩ := h
  have sc := sc_l_many
  refine ⟨_, (pss_one (ps_ret (pe_callB call_lenSO (by rfl) T.b_len PySem.boot_len (pa_cons (pe_callTy (call_setL rfl) (by rfl) T.b_set (by decide +kernel) (pa_cons (pe_lc (te := (tVar 1)) (own := [("_law_rank", 1)]) rfl sc.nd (pi_tup (pv 0)) (blkOk_by (own := [("_law_rank", 1)]) (N := ["_law_ranks_here", "_law_rank"]) (sc := defScope s_l_many) (by decide +kernel)) (fun _ _ _ _ _ => (pg_name (i := 1) sc.nd rfl (.inl rfl))) (fun _ _ _ _ _ => (pts_one (pt_cmp (pc_notN (pv 1)) rfl))) (fun _ _ _ _ _ => (pv 1))) pa_nil)) pa_nil)))), ?_⟩
  refine' i_start (by walk_at "set") ?_
  walk_at "rd"
  refine go_lcVals hv (by omega) (by decide) (fun _ => rfl) fun l H1 k1 nl hl => ?_
  walk_at "rd"
  have vl := vals_le h
  refine i_setL (SqL.of hl) (by omega) fun p c H2 k2 e2 hc => ?_
  walk_at "rd"
  refine ⟨p, _, c, rfl, e2, fun cc => ?_⟩
  obtain rfl := many_of (h := h) (fun k => by rw [decide_eq_true_eq]) cc
  exact q H2 (k1.trans k2)
end
/-! ### the class Pair: each method but is_parted -/
abbrev s___init__ : Stmt := inClass (topS 12) 0
theorem sc___init__ : FnScope ["self", "one", "other"] ["self", "one", "other"] (defScope s___init__) := ⟨rfl, rfl, rfl, by decide +kernel, rfl, by decide +kernel, by decide +kernel⟩
abbrev s_joint_type : Stmt := inClass (topS 12) 1
theorem sc_joint_type : FnScope ["self", "content", "another"] ["self", "content", "another"] (defScope s_joint_type) := ⟨rfl, rfl, rfl, by decide +kernel, rfl, by decide +kernel, by decide +kernel⟩
abbrev s_contents : Stmt := inClass (topS 12) 2
theorem sc_contents : FnScope ["self", "joint", "held", "rank"] ["self", "joint"] (defScope s_contents) := ⟨rfl, rfl, rfl, by decide +kernel, rfl, by decide +kernel, by decide +kernel⟩
abbrev s_after : Stmt := inClass (topS 12) 3
theorem sc_after : FnScope ["self", "joint", "tag", "spot", "content", "another", "said", "other_said"] ["self", "joint", "tag", "spot"] (defScope s_after) := ⟨rfl, rfl, rfl, by decide +kernel, rfl, by decide +kernel, by decide +kernel⟩
def spInit (P : Program) (w : World) (K : PySem.W.Frag) (C : Addr) : Sp := fun vs H Q _ => ∃ (m : Mach) (p dx : Addr) (a b : V), vs = [.ref p, a, b] ∧ H p = some (.ins C dx []) ∧ Dt K H a (machD m) ∧ Dt K H b (machD m) ∧
  ∀ d H', Kp [p] H H' → PI K C m H' p d → H d = none → DN P w K H' d [] → Q .non H'
def spJT (K : PySem.W.Frag) : Sp := fun vs H Q _ => ∃ (s a b : V) (c d : Content), vs = [s, a, b] ∧ Dt K H a (contD c) ∧ Dt K H b (contD d) ∧ c.2.length + d.2.length ≤ 60 ∧ ∀ u H', Kp [] H H' → Dt K H' u (jtD (jt c d)) → Q u H'
def spContents (K : PySem.W.Frag) (C : Addr) : Sp := fun vs H Q _ => ∃ (m : Mach) (p d : Addr) (a : V) (j : JT), vs = [.ref p, a] ∧ PI K C m H p d ∧ Dt K H a (jtD j) ∧ j.2.2.length ≤ 60 ∧
  ∀ u H', Kp [] H H' → Dt K H' u (.tuple [contD (absL m.regs j), contD (absR m.regs j)]) → Q u H'
def spAfter (K : PySem.W.Frag) (C : Addr) : Sp := fun vs H Q _ => ∃ (m : Mach) (p d : Addr) (a : V) (j : JT) (t s : Nat), vs = [.ref p, a, .int t, .int s] ∧ PI K C m H p d ∧ Dt K H a (jtD j) ∧ m.Ok ∧ JOk m j ∧ t < m.tags ∧
  (stepJ m j t s = none → ∀ H', Kp [] H H' → Q .non H') ∧ (∀ j', stepJ m j t s = some j' → JOk m j' → ∀ u H', Kp [] H H' → Dt K H' u (jtD j') → Q u H')
section
variable {P : Program} {w : World} {K : PySem.W.Frag} {mg : Str → Option Value} {base : Heap} {C : Addr}
theorem ok_init (F : MT K C "__init__" "Pair.__init__" s___init__ ["self", "one", "other"]) (T : Tx mg) (Tc : TC K mg C) : MG P w K mg base C 1 "__init__" ["self", "one", "other"] (spInit P w K C) := by
  refine F.ok sc___init__ (fun vs H Q E h => ?_) (fun f cdv A outer s H vs Q E hr h => ?_)
  · obtain ⟨_, _, _, _, _, rfl, _⟩ := h
    rfl
  obtain ⟨m, p, dx, a, b, rfl, hp, ha, hb, q⟩ := h
  have sc := sc___init__
  refine ⟨_, (pss_cons (ps_fld (pv 0) (pv 1) rfl)
    (pss_cons (ps_fld (pv 0) (pv 2) rfl)
    (pss_one (ps_fld (pv 0) pe_dnewN rfl)))), ?_⟩
  refine' i_start (by walk_at "set") ?_
  walk_at "rd"
  refine ⟨p, C, dx, _, rfl, hp, Tc.cl, Tc.n1, (by show 0 < 1000; decide), ?_⟩
  walk_at "rd"
  refine ⟨p, C, dx, _, rfl, upd_same, Tc.cl, Tc.n2, (by show 1 < 1000; decide), ?_⟩
  walk_at "rd"
  refine i_dnew fun d H3 k3 n3 hd => ?_
  walk_at "rd"
  refine ⟨p, C, dx, _, rfl, k3.get0 upd_same, Tc.cl, Tc.n3, (by show 2 < 1000; decide), ?_⟩
  have mu : Mut (H p) := by rw [hp]; trivial
  have k1 : Kp [p] H (upd H p (.ins C dx (putF "one" a []))) := Kp.wr mu
  have k2 : Kp [p] (upd H p (.ins C dx (putF "one" a []))) (upd (upd H p (.ins C dx (putF "one" a []))) p (.ins C dx (putF "other" b (putF "one" a [])))) := Kp.wr (by rw [upd_same]; trivial)
  have k12 := k1.trans k2
  have nd : d ≠ p := fun z => by
    rw [z, upd_same] at n3
    cases n3
  have n0 : H d = none := by
    rw [upd_ne nd, upd_ne nd] at n3
    exact n3
  have k4 : Kp [p] H3 (upd H3 p (.ins C dx (pf a b d))) := Kp.wr (by rw [k3.get0 upd_same]; trivial)
  have k := (k12.trans k3.any).trans k4
  exact q d _ k ⟨dx, a, b, upd_same, ha.up k, hb.up k⟩ n0 (hd.up k4 (fun z => nd (List.mem_singleton.mp z)))
theorem ok_joint_type (F : MT K C "joint_type" "Pair.joint_type" s_joint_type ["self", "content", "another"]) (T : Tx mg) (G_ranks_of : FG P w K mg base 1 "ranks_of" ["held"] (spRanks K)) : MG P w K mg base C 2 "joint_type" ["self", "content", "another"] (spJT K) := by
  refine F.ok sc_joint_type (fun vs H Q E h => ?_) (fun f cdv A outer s H vs Q E hr h => ?_)
  · obtain ⟨_, _, _, _, _, rfl, _⟩ := h
    rfl
  obtain ⟨p, a, b, c, d, rfl, ha, hb, hl, q⟩ := h
  have sc := sc_joint_type
  refine ⟨_, (pss_one (ps_ret (pe_tup (pa_cons (pe_ix ix_tup (pv 1) pe_int (fun _ _ => rfl)) (pa_cons (pe_ix ix_tup (pv 2) pe_int (fun _ _ => rfl)) (pa_cons (pe_cg G_ranks_of hr (by rfl) (pa_cons (pe_op op_catA (pe_ix ix_tup (pv 1) pe_int (fun _ _ => rfl)) (pe_ix ix_tup (pv 2) pe_int (fun _ _ => rfl))) pa_nil)) pa_nil)))))), ?_⟩
  refine' i_start (by walk_at "set") ?_
  walk_at "rd"
  refine i_ixTi ha ix0 ?_
  walk_at "rd"
  refine i_ixTi hb ix0 ?_
  walk_at "rd"
  refine i_ixT ha ix1 fun w1 h1 => ?_
  walk_at "rd"
  refine i_ixT hb ix1 fun w2 h2 => ?_
  refine i_cat h1 h2 (by rw [List.length_map, List.length_map]; omega) fun z H1 k1 hz => ?_
  rw [← List.map_append] at hz
  walk_at "rd"
  refine ⟨c.2 ++ d.2, z, rfl, hz, by rw [List.length_append]; exact hl, fun u H2 k2 hu => ?_⟩
  walk_at "rd"
  refine g_tup (K := K) (.cons (.int _) (.cons (.int _) (.one hu))) (by show 3 ≤ 100000; decide) fun y H3 k3 hy => ?_
  exact q y H3 ((k1.trans k2).trans k3) hy
theorem ok_contents (F : MT K C "contents" "Pair.contents" s_contents ["self", "joint"]) (T : Tx mg) (Tc : TC K mg C) : MG P w K mg base C 1 "contents" ["self", "joint"] (spContents K C) := by
  refine F.ok sc_contents (fun vs H Q E h => ?_) (fun f cdv A outer s H vs Q E hr h => ?_)
  · obtain ⟨_, _, _, _, _, rfl, _⟩ := h
    rfl
  obtain ⟨m, p, d, a, j, rfl, hp, ha, hl, q⟩ := h
  have sc := sc_contents
  refine ⟨_, (pss_cons (ps_set (i := 2) sc.nd rfl (.inl rfl) (pe_callTy call_tupD (by rfl) T.b_tuple (by decide +kernel) (pa_cons (pe_lc (te := (tIf (tB (tIsN (tVar 3))) (tC .non) (tOp _ (tOp _ (tC (.int 2)) (tVar 3)) (tC (.int 1))))) (own := [("rank", 3)]) rfl sc.nd (pi_tup (pe_ix ix_tup (pv 1) pe_int (fun _ _ => rfl))) (blkOk_by (own := [("rank", 3)]) (N := ["self", "joint", "held", "rank"]) (sc := defScope s_contents) (by decide +kernel)) (fun _ _ _ _ _ => (pg_name (i := 3) sc.nd rfl (.inl rfl))) (fun _ _ _ _ _ => pts_nil) (fun _ _ _ _ _ => (pe_ifExp (pt_cmp (pc_isN (pv 3)) rfl) pe_non (pe_op op_add (pe_op op_mul pe_int (pv 3)) pe_int)))) pa_nil)))
    (pss_one (ps_ret (pe_tup (pa_cons (pe_tup (pa_cons (pe_ix ix_tup (pv 1) pe_int (fun _ _ => rfl)) (pa_cons (pe_slice sl_tupA (pv 2) po_none (po_some (pe_ix ix_tup (pe_fld (pv 0) rfl) pe_int (fun _ _ => rfl)))) pa_nil))) (pa_cons (pe_tup (pa_cons (pe_ix ix_tup (pv 1) pe_int (fun _ _ => rfl)) (pa_cons (pe_slice sl_tupA (pv 2) (po_some (pe_ix ix_tup (pe_fld (pv 0) rfl) pe_int (fun _ _ => rfl))) po_none) pa_nil))) pa_nil)))))), ?_⟩
  refine' i_start (by walk_at "set") ?_
  walk_at "rd"
  refine i_ixT ha ix2 fun w1 h1 => ?_
  refine go_lcT (M := []) h1 (by rw [List.length_map]; omega) (fun i acc _ => acc = (odd (j.2.2.take i)).map oV) (fun i acc H1 H2 D _ _ p => p) rfl (fun i dd x acc H4 D hi hx k4 hD hacc hlt p R1 R0 r1 r0 => ?_) (fun l H4 acc k4 nl hl' hle pp => ?_)
  · rw [List.getElem?_map] at hi
    obtain ⟨o, ho, rfl⟩ := Option.map_eq_some_iff.mp hi
    obtain rfl := dt_oI hx
    refine' t_yes (by decide) (by walk_at "set") ?_
    have hend : ∀ (y : V), y = oV (o.map fun r => 2 * r + 1) → acc ++ [y] = (odd (j.2.2.take (i + 1))).map oV := fun y e => by
      unfold odd at p ⊢
      rw [e, p, ← take_map_next ho, List.map_append]
      rfl
    cases o with
    | none =>
      repeat (first | walk_at "rd" | walk_at "br")
      exact r1 _ _ hacc k4 (hend _ rfl)
    | some r =>
      repeat (first | walk_at "rd" | walk_at "br")
      refine i_I (.inl ⟨by decide, by decide⟩) ?_
      walk_at "rd"
      exact r1 _ _ hacc k4 (hend _ rfl)
  · rw [List.length_map, List.take_length] at pp
    walk_at "rd"
    refine i_tupL (ds := (odd j.2.2).map oI) hl' (by rw [pp]; exact dtAll_oV _) fun u H5 k5 hu => ?_
    have k := k4.trans k5
    have ha := ha.up k
    have hp := hp.up k (fun z => nomatch z)
    walk_at "rd"
    refine i_ixTi ha ix0 ?_
    walk_at "rd"
    refine i_fOne Tc hp fun m1 hm1 => ?_
    walk_at "rd"
    refine i_ixTi hm1 ix1 ?_
    walk_at "rd"
    refine i_slTo hu fun z1 H6 k6 hz1 => ?_
    rw [← List.map_take] at hz1
    walk_at "rd"
    refine g_tup (K := K) (.cons (.int _) (.one hz1)) (by show 2 ≤ 100000; decide) fun y1 H7 k7 hy1 => ?_
    have k67 := k6.trans k7
    have ha := ha.up k67
    have hp := hp.up k67 (fun z => nomatch z)
    walk_at "rd"
    refine i_ixTi ha ix1 ?_
    walk_at "rd"
    refine i_fOne Tc hp fun m2 hm2 => ?_
    walk_at "rd"
    refine i_ixTi hm2 ix1 ?_
    walk_at "rd"
    refine i_slFrom (hu.up k67) fun z2 H8 k8 hz2 => ?_
    rw [← List.map_drop] at hz2
    walk_at "rd"
    refine g_tup (K := K) (.cons (.int _) (.one hz2)) (by show 2 ≤ 100000; decide) fun y2 H9 k9 hy2 => ?_
    walk_at "rd"
    refine g_tup (K := K) (.cons ((hy1.up k8).up k9) (.one hy2)) (by show 2 ≤ 100000; decide) fun y H10 k10 hy => ?_
    exact q y H10 ((((k.trans k67).trans k8).trans k9).trans k10) hy
theorem ok_after (F : MT K C "after" "Pair.after" s_after ["self", "joint", "tag", "spot"]) (T : Tx mg) (Tc : TC K mg C) (G_contents : MG P w K mg base C 1 "contents" ["self", "joint"] (spContents K C)) (G_joint_type : MG P w K mg base C 2 "joint_type" ["self", "content", "another"] (spJT K))
    (G_read : FG P w K mg base 6 "read" ["machine", "content", "entry"] (spRead K)) : MG P w K mg base C 7 "after" ["self", "joint", "tag", "spot"] (spAfter K C) := by
  have G_contents := G_contents.mono (show 1 ≤ 6 by omega)
  have G_joint_type := G_joint_type.mono (show 2 ≤ 6 by omega)
  refine F.ok sc_after (fun vs H Q E h => ?_) (fun f cdv A outer s H vs Q E hr h => ?_)
  · obtain ⟨_, _, _, _, _, _, _, rfl, _⟩ := h
    rfl
  obtain ⟨m, p, d, a, j, t, sp, rfl, hp, ha, mok, jok, ht, q0, q1⟩ := h
  have hu := hr.units
  have rg := mok.regs
  have sc := sc_after
  refine ⟨_, (pss_cons (ps_asg (pe_cm (pv 0) Tc.cl G_contents hr (pa_cons (pv 1) pa_nil)) (pg_tup (n := 2) rfl (pgs_cons (pg_name (i := 4) sc.nd rfl (.inl rfl)) (pgs_cons (pg_name (i := 5) sc.nd rfl (.inl rfl)) pgs_nil))))
    (pss_cons (ps_asg (pe_cg G_read hr (by rfl) (pa_cons (pe_fld (pv 0) rfl) (pa_cons (pv 4) (pa_cons (pe_tup (pa_cons (pv 2) (pa_cons (pv 3) pa_nil))) pa_nil)))) (pg_tup (n := 2) rfl (pgs_cons (pg_name (i := 4) sc.nd rfl (.inl rfl)) (pgs_cons (pg_name (i := 6) sc.nd rfl (.inl rfl)) pgs_nil))))
    (pss_cons (ps_asg (pe_cg G_read hr (by rfl) (pa_cons (pe_fld (pv 0) rfl) (pa_cons (pv 5) (pa_cons (pe_tup (pa_cons (pv 2) (pa_cons (pv 3) pa_nil))) pa_nil)))) (pg_tup (n := 2) rfl (pgs_cons (pg_name (i := 5) sc.nd rfl (.inl rfl)) (pgs_cons (pg_name (i := 7) sc.nd rfl (.inl rfl)) pgs_nil))))
    (pss_cons (ps_if (pt_cmpR (op_neD hu) (pv 6) (pv 7) (nomark _))
    (pss_one (ps_ret pe_non))
    pss_nil)
    (pss_one (ps_ret (pe_cm (pv 0) Tc.cl G_joint_type hr (pa_cons (pv 4) (pa_cons (pv 5) pa_nil))))))))), ?_⟩
  refine' i_start (by walk_at "set") ?_
  walk_at "t"
  refine ⟨i_mAt hp (by decide +kernel) (by decide +kernel) (by decide +kernel), ?_⟩
  walk_at "t"
  refine ⟨m, p, d, a, j, rfl, hp, ha, by rw [jok.len]; omega, fun u H1 k1 hu1 => ?_⟩
  have hp := hp.up k1 (fun z => nomatch z)
  walk_at "t"
  refine' i_gtup2 hu1 (by walk_at "set") fun c1 c2 hc1 hc2 => ?_
  walk_at "t"
  refine i_fOne Tc hp fun m1 hm1 => ?_
  walk_at "t"
  refine g_tup (K := K) (ds := [.int t, .int sp]) (.cons (.int _) (.one (.int _))) (by show 2 ≤ 100000; decide) fun e1 H2 k2 he1 => ?_
  walk_at "t"
  refine ⟨m, absL m.regs j, t, sp, ⟨⟨m1, c1, e1, rfl, hm1.up k2, hc1.up k2, he1⟩, mok, jok.inL, ht⟩, fun r1 H3 k3 hr1 => ?_⟩
  walk_at "t"
  refine' i_gtup2 hr1 (by walk_at "set") fun b1 s1 hb1 hs1 => ?_
  have k23 := k2.trans k3
  have hp := hp.up k23 (fun z => nomatch z)
  walk_at "t"
  refine i_fOther Tc hp fun m2 hm2 => ?_
  walk_at "t"
  refine g_tup (K := K) (ds := [.int t, .int sp]) (.cons (.int _) (.one (.int _))) (by show 2 ≤ 100000; decide) fun e2 H4 k4 he2 => ?_
  walk_at "t"
  refine ⟨m, absR m.regs j, t, sp, ⟨⟨m2, c2, e2, rfl, hm2.up k4, (hc2.up k23).up k4, he2⟩, mok, jok.inR, ht⟩, fun r2 H5 k5 hr2 => ?_⟩
  walk_at "t"
  refine' i_gtup2 hr2 (by walk_at "set") fun b2 s2 hb2 hs2 => ?_
  have k45 := k4.trans k5
  have kk := (k1.trans k23).trans k45
  walk_at "t"
  refine i_neA (hs1.up k45) hs2 ?_
  walk_at "t"
  have i1 := mok.read_in jok.inL ht sp
  have i2 := mok.read_in jok.inR ht sp
  refine ite2 (fun e => ?_) (fun e => ?_)
  · have ne : ¬ (m.read (absL m.regs j) t sp).2 = (m.read (absR m.regs j) t sp).2 := fun z => by
      rw [decide_eq_true z] at e
      cases e
    walk_at "t"
    refine q0 ?_ H5 kk
    unfold stepJ
    rw [if_neg ne]
  · have eq : (m.read (absL m.regs j) t sp).2 = (m.read (absR m.regs j) t sp).2 := Classical.byContradiction fun z => by
      rw [decide_eq_false z] at e
      exact e rfl
    walk_at "t"
    refine ⟨i_mAt (hp.up k45 (fun z => nomatch z)) (by decide +kernel) (by decide +kernel) (by decide +kernel), ?_⟩
    walk_at "t"
    refine ⟨.ref p, b1, b2, _, _, rfl, hb1.up k45, hb2, by rw [i1.len, i2.len]; omega, fun u H6 k6 hu6 => ?_⟩
    refine q1 _ ?_ (jt_ok mok i1 i2) u H6 (kk.trans k6) hu6
    unfold stepJ
    rw [if_pos eq]
end
theorem i_norm {u : TS} {D : Ends} {σ σ' : L2.St} {H : Hp} (e : σ = σ') (q : u D σ' H) : u D σ H := by
  subst e
  exact q
abbrev s_with_values : Stmt := topS 13
theorem sc_with_values : FnScope ["kind", "values", "rank"] ["kind", "values"] (defScope s_with_values) := ⟨rfl, rfl, rfl, by decide +kernel, rfl, by decide +kernel, by decide +kernel⟩
abbrev s_is_parted : Stmt := inClass (topS 12) 4
theorem sc_is_parted : FnScope ["self", "content", "another", "waiting", "seen", "at", "joint", "tag", "spot", "behind"] ["self", "content", "another"] (defScope s_is_parted) := ⟨rfl, rfl, rfl, by decide +kernel, rfl, by decide +kernel, by decide +kernel⟩
abbrev s_needed_by : Stmt := topS 14
theorem sc_needed_by : FnScope ["pair", "kind", "many", "rank", "values", "found", "moved"] ["pair", "kind"] (defScope s_needed_by) := ⟨rfl, rfl, rfl, by decide +kernel, rfl, by decide +kernel, by decide +kernel⟩
abbrev s_needed : Stmt := topS 15
theorem sc_needed : FnScope ["machine", "kind"] ["machine", "kind"] (defScope s_needed) := ⟨rfl, rfl, rfl, by decide +kernel, rfl, by decide +kernel, by decide +kernel⟩
def intsV (n : Nat) (f : Nat → Int) : List V := (List.range n).map fun i => .int (f i)
theorem intsV_len (n : Nat) (f : Nat → Int) : (intsV n f).length = n := by unfold intsV; rw [List.length_map, List.length_range]
theorem intsV_at {n : Nat} {f : Nat → Int} {r : Int} (h0 : 0 ≤ r) (h : r < n) : atI (intsV n f) r = some (.int (f r.toNat)) := by
  refine atI_toNat h0 ?_
  unfold intsV
  have hj : r.toNat < n := by omega
  rw [List.getElem?_map, List.getElem?_range hj]
  rfl
def spWith (K : PySem.W.Frag) : Sp := fun vs H Q _ => ∃ (s : Nat) (rs : Held) (n : Nat) (f : Nat → Int) (a : V) (l : Addr), vs = [a, .ref l] ∧ Dt K H a (contD (s, rs)) ∧ H l = some (.lst (intsV n f)) ∧ rs.length ≤ 60 ∧ (∀ r, some r ∈ rs → 0 ≤ r ∧ r < n) ∧
  ∀ u H', Kp [] H H' → Dt K H' u (contD (s, withF rs f)) → Q u H'
def spParted (P : Program) (w : World) (K : PySem.W.Frag) (C : Addr) : Sp := fun vs H Q _ => ∃ (m : Mach) (p d : Addr) (cl : List JT) (a b : V) (c e : Content), vs = [.ref p, a, b] ∧ PI K C m H p d ∧ DN P w K H d cl ∧ CL m cl ∧ m.Ok ∧ m.In c ∧ m.In e ∧ Dt K H a (contD c) ∧ Dt K H b (contD e) ∧
  ∀ r H' cl', Kp [d] H H' → DN P w K H' d cl' → CL m cl' → (r = false → jt c e ∈ cl') → Q (.bl r) H'
theorem withF_take {rs : Held} {f : Nat → Int} {i : Nat} {o : Option Int} (h : rs[i]? = some o) : withF (rs.take (i + 1)) f = withF (rs.take i) f ++ [o.map fun r => f r.toNat] := by
  unfold withF
  rw [List.take_add_one, h, List.map_append]
  rfl
/-- all steps of j lead into ws -/
def Done (m : Mach) (ws : List JT) (j : JT) : Prop := ∀ t, t < m.tags → ∀ s, s < 2 * many j.2.2 + 1 → ∃ j', j' ∈ ws ∧ stepJ m j t s = some j'
structure WsOk (m : Mach) (cl : List JT) (j0 : JT) (ws : List JT) (n : Nat) : Prop where
  nd : ws.Nodup
  ok : ∀ j ∈ ws, JOk m j
  fst : j0 ∈ ws
  at_ : n ≤ ws.length
  done : ∀ i j, i < n → ws[i]? = some j → j ∈ cl ∨ Done m ws j
theorem Done.grow {m : Mach} {ws : List JT} {j x : JT} (h : Done m ws j) : Done m (ws ++ [x]) j := fun t ht s hs =>
  let ⟨j', a, b⟩ := h t ht s hs
  ⟨j', List.mem_append_left _ a, b⟩
theorem WsOk.grow {m : Mach} {cl : List JT} {j0 : JT} {ws : List JT} {n : Nat} {x : JT} (h : WsOk m cl j0 ws n) (hx : x ∉ ws) (ok : JOk m x) : WsOk m cl j0 (ws ++ [x]) n := by
  refine ⟨?_, fun j hj => ?_, List.mem_append_left _ h.fst, by rw [List.length_append]; have := h.at_; omega, fun i j hi hj => ?_⟩
  · rw [List.nodup_append]
    refine ⟨h.nd, by simp, fun a ha b hb e => ?_⟩
    rw [List.mem_singleton] at hb
    rw [e, hb] at ha
    exact hx ha
  · rcases List.mem_append.mp hj with q | q
    · exact h.ok j q
    · rw [List.mem_singleton.mp q]; exact ok
  · rw [List.getElem?_append_left (by have := h.at_; omega)] at hj
    exact (h.done i j hi hj).imp id Done.grow
theorem mem_put {js : List JT} {j x : JT} : x ∈ (if j ∈ js then js else js ++ [j]) ↔ x ∈ js ∨ x = j := by
  split
  · rename_i h
    exact ⟨.inl, fun z => z.elim id fun e => e ▸ h⟩
  · rw [List.mem_append, List.mem_singleton]
theorem nodup_put {js : List JT} {j : JT} (h : js.Nodup) : (if j ∈ js then js else js ++ [j]).Nodup := by
  split
  · exact h
  · rename_i n
    rw [List.nodup_append]
    refine ⟨h, by simp, fun a ha b hb e => ?_⟩
    rw [List.mem_singleton] at hb
    rw [e, hb] at ha
    exact n ha
section
variable {P : Program} {w : World} {K : PySem.W.Frag} {mg : Str → Option Value} {base : Heap} {C : Addr}
theorem ok_with_values (F : FT K mg "with_values" s_with_values ["kind", "values"]) (T : Tx mg) : FG P w K mg base 1 "with_values" ["kind", "values"] (spWith K) := by
  refine F.ok sc_with_values (fun vs H Q E h => ?_) (fun f cdv A outer s H vs Q E hr h => ?_)
  · obtain ⟨_, _, _, _, _, _, rfl, _⟩ := h
    rfl
  obtain ⟨st, rs, n, f, a, l, rfl, ha, hl, hlen, hrs, q⟩ := h
  have sc := sc_with_values
  refine ⟨_, (pss_one (ps_ret (pe_tup (pa_cons (pe_ix ix_tup (pv 0) pe_int (fun _ _ => rfl)) (pa_cons (pe_callTy call_tupD (by rfl) T.b_tuple (by decide +kernel) (pa_cons (pe_lc (te := (tIf (tB (tIsN (tVar 2))) (tC .non) (tOp (rIxL K) (tVar 1) (tVar 2)))) (own := [("rank", 2)]) rfl sc.nd (pi_tup (pe_ix ix_tup (pv 0) pe_int (fun _ _ => rfl))) (blkOk_by (own := [("rank", 2)]) (N := ["kind", "values", "rank"]) (sc := defScope s_with_values) (by decide +kernel)) (fun _ _ _ _ _ => (pg_name (i := 2) sc.nd rfl (.inl rfl))) (fun _ _ _ _ _ => pts_nil) (fun _ _ _ _ _ => (pe_ifExp (pt_cmp (pc_isN (pv 2)) rfl) pe_non (pe_ix ix_list (pv 1) (pv 2) (fun _ _ => rfl))))) pa_nil)) pa_nil))))), ?_⟩
  refine' i_start (by walk_at "set") ?_
  walk_at "rd"
  refine i_ixTi ha ix0 ?_
  walk_at "rd"
  refine i_ixT ha ix1 fun w1 h1 => ?_
  refine go_lcT (M := []) h1 (by rw [List.length_map]; show rs.length ≤ 100000; omega) (fun i acc _ => acc = (withF (rs.take i) f).map oV) (fun i acc H1 H2 D _ _ p => p) rfl (fun i dd x acc H4 D hi hx k4 hD hacc hlt p R1 R0 r1 r0 => ?_) (fun l2 H4 acc k4 nl hl' hle pp => ?_)
  · rw [List.getElem?_map] at hi
    obtain ⟨o, ho, rfl⟩ := Option.map_eq_some_iff.mp hi
    obtain rfl := dt_oI hx
    refine' t_yes (by decide) (by walk_at "set") ?_
    cases o with
    | none =>
      repeat (first | walk_at "rd" | walk_at "br")
      refine r1 _ _ hacc k4 ?_
      rw [withF_take ho, List.map_append, p]
      rfl
    | some r =>
      repeat (first | walk_at "rd" | walk_at "br")
      have b := hrs r (List.mem_of_getElem? ho)
      refine i_ixL (SqL.of (k4.get0 hl)) (intsV_at b.1 b.2) ?_
      refine r1 _ _ hacc k4 ?_
      rw [withF_take ho, List.map_append, p]
      rfl
  · rw [List.length_map, List.take_length] at pp
    walk_at "t"
    refine i_tupL (ds := (withF rs f).map oI) hl' (by rw [pp]; exact dtAll_oV _) fun u H5 k5 hu => ?_
    walk_at "t"
    refine g_tup (K := K) (.cons (.int _) (.one hu)) (by show 2 ≤ 100000; decide) fun y H6 k6 hy => ?_
    exact q y H6 ((k4.trans k5).trans k6) hy
theorem ok_is_parted (F : MT K C "is_parted" "Pair.is_parted" s_is_parted ["self", "content", "another"]) (T : Tx mg) (Tc : TC K mg C) (G_after : MG P w K mg base C 7 "after" ["self", "joint", "tag", "spot"] (spAfter K C)) (G_joint_type : MG P w K mg base C 2 "joint_type" ["self", "content", "another"] (spJT K))
    (G_spots_of : FG P w K mg base 1 "spots_of" ["ranks"] (spSpots K)) : MG P w K mg base C 8 "is_parted" ["self", "content", "another"] (spParted P w K C) := by
  have G_joint_type := G_joint_type.mono (show 2 ≤ 7 by omega)
  have G_spots_of := G_spots_of.mono (show 1 ≤ 7 by omega)
  refine F.ok sc_is_parted (fun vs H Q E h => ?_) (fun f cdv A outer s H vs Q E hr h => ?_)
  · obtain ⟨_, _, _, _, _, _, _, _, rfl, _⟩ := h
    rfl
  obtain ⟨m, p, d, cl, a, b, c, e, rfl, hp, hd, hcl, mok, hc, he, ha, hb, q⟩ := h
  have hu := hr.units
  have rg := mok.regs
  have sc := sc_is_parted
  refine ⟨_, (pss_cons (ps_set (i := 3) sc.nd rfl (.inl rfl) (pe_lst (pa_cons (pe_cm (pv 0) Tc.cl G_joint_type hr (pa_cons (pv 1) (pa_cons (pv 2) pa_nil))) pa_nil)))
    (pss_cons (ps_set (i := 4) sc.nd rfl (.inl rfl) (pe_dispN hu (pe_ix ix_list (pv 3) pe_int (fun _ _ => rfl))))
    (pss_cons (ps_set (i := 5) sc.nd rfl (.inl rfl) pe_int)
    (pss_cons (ps_while PassesOwn.never (pt_cmpR op_lt (pv 5) (pe_callB call_lenD (by rfl) T.b_len PySem.boot_len (pa_cons (pv 3) pa_nil)) (nomark _))
    (pss_cons (ps_set (i := 6) sc.nd rfl (.inl rfl) (pe_ix ix_list (pv 3) (pv 5) (fun _ _ => rfl)))
    (pss_cons (ps_aug (i := 5) sc.nd rfl (.inl rfl) pe_int ip_add)
    (pss_one (ps_if (pt_cmpR (op_notInN hu) (pv 6) (pe_fld (pv 0) rfl) rfl)
    (pss_one (ps_for PassesOwn.never rfl (pi_range1 (by rfl) T.b_range (pa_cons (pe_ix ix_tup (pe_fld (pv 0) rfl) pe_int (fun _ _ => rfl)) pa_nil)) (pg_name (i := 7) sc.nd rfl (.inl rfl))
    (pss_one (ps_for PassesOwn.never rfl (pi_range1 (by rfl) T.b_range (pa_cons (pe_cg G_spots_of hr (by rfl) (pa_cons (pe_ix ix_tup (pv 6) pe_int (fun _ _ => rfl)) pa_nil)) pa_nil)) (pg_name (i := 8) sc.nd rfl (.inl rfl))
    (pss_cons (ps_set (i := 9) sc.nd rfl (.inl rfl) (pe_cm (pv 0) Tc.cl G_after hr (pa_cons (pv 6) (pa_cons (pv 7) (pa_cons (pv 8) pa_nil)))))
    (pss_cons (ps_if (pt_cmp (pc_isN (pv 9)) rfl)
    (pss_one (ps_ret pe_bl))
    pss_nil)
    (pss_one (ps_if (pt_cmpR (op_notInN hu) (pv 9) (pv 4) rfl)
    (pss_cons (ps_asg pe_bl (pg_sub (pv 4) (pv 9) (set_dN hu)))
    (pss_one (ps_expr (pe_bm PySem.F.plainAttrs_list PySem.F.slot_list_append PySem.F.type_list_append mt_append (pv 3) (pa_cons (pv 9) pa_nil)))))
    pss_nil))))))))
    pss_nil)))))
    (pss_cons (ps_for PassesOwn.never rfl (pi_list (pv 3)) (pg_name (i := 6) sc.nd rfl (.inl rfl))
    (pss_one (ps_asg pe_bl (pg_sub (pe_fld (pv 0) rfl) (pv 6) (set_dN hu)))))
    (pss_one (ps_ret pe_bl))))))), ?_⟩
  refine' i_start (by walk_at "set") ?_
  walk_at "t"
  refine ⟨i_mAt hp (by decide +kernel) (by decide +kernel) (by decide +kernel), ?_⟩
  walk_at "t"
  refine ⟨.ref p, a, b, c, e, rfl, ha, hb, by rw [hc.len, he.len]; omega, fun j0 H1 k1 hj0 => ?_⟩
  walk_at "t"
  refine g_lst (by show 1 ≤ 100000; decide) fun l H2 k2 nl hl => ?_
  walk_at "t"
  refine fun z H3 k3 nz hz => ?_
  walk_at "t"
  refine i_ixL (SqL.of (k3.get0 hl)) (atI_nat (j := 0) rfl) ?_
  refine ⟨hz, jt c e, (hj0.up k2).up k3, fun H4 k4 hz4 => ?_⟩
  have nlz : l ≠ z := fun e => by
    rw [← e, hl] at nz
    cases nz
  have hl4 : H4 l = some (.lst [j0]) := k4.get (fun x => nlz (List.mem_singleton.mp x)) (k3.get0 hl)
  have nz0 : H z = none := (k1.trans k2).free nz
  have nl0 : H l = none := k1.free nl
  have k04 : Kp [] H H4 := ((k1.trans k2).trans k3).fresh k4 fun x hx => .inr (by rw [List.mem_singleton.mp hx]; exact nz0)
  have npl : p ≠ l := fun e => by
    obtain ⟨dx, _, _, z, _⟩ := hp.ex
    rw [e, nl0] at z
    cases z
  have npz : p ≠ z := fun e => by
    obtain ⟨dx, _, _, z, _⟩ := hp.ex
    rw [e, nz0] at z
    cases z
  have hd0 : H d ≠ none := by
    obtain ⟨ks, z, _⟩ := hd
    rw [z]
    exact fun y => by cases y
  have ndl : d ≠ l := fun e => hd0 (by rw [e]; exact nl0)
  have ndz : d ≠ z := fun e => hd0 (by rw [e]; exact nz0)
  have npd : p ≠ d := fun e => by
    obtain ⟨dx, _, _, z, _⟩ := hp.ex
    obtain ⟨ks, y, _⟩ := hd
    rw [e, y] at z
    cases z
  -- what stands while it waits
  let St : List JT → Hp → Prop := fun ws H' => Kp [] H H' ∧ (∃ vs, H' l = some (.lst vs) ∧ DtAll K H' vs (ws.map jtD)) ∧ DN P w K H' z ws
  have grow : ∀ ws H', St ws H' → ∀ H'', Kp [] H' H'' → St ws H'' := fun ws H' ⟨k, ⟨vs, e1, e2⟩, e3⟩ H'' k' => ⟨k.trans k', ⟨vs, k'.get0 e1, e2.up k'⟩, e3.up k' (fun x => nomatch x)⟩
  walk_at "t"
  refine ⟨fun n σ H' => ∃ (ws : List JT) (at_ : Nat) (y6 y7 y8 y9 : Option V), σ = [some (.ref p), some a, some b, some (.ref l), some (.ref z), some (.int (at_ : Nat)), y6, y7, y8, y9] ∧ St ws H' ∧ WsOk m cl (jt c e) ws at_ ∧ n = 5626 - at_,
    ⟨5626, [jt c e], 0, none, none, none, none, rfl, ⟨k04, ⟨_, hl4, .one (((hj0.up k2).up k3).up k4)⟩, hz4⟩, ⟨by simp, fun j hj => by rw [List.mem_singleton.mp hj]; exact jt_ok mok hc he, List.mem_cons_self, Nat.zero_le _, fun i j hi => absurd hi (Nat.not_lt_zero _)⟩, rfl⟩, ?_⟩
  rintro n σ H5 ⟨ws, at_, y6, y7, y8, y9, rfl, st5, wok, rfl⟩
  obtain ⟨k05, ⟨vs5, hl5, hv5⟩, hz5⟩ := id st5
  have few := jts_few mok wok.nd wok.ok
  have lv := hv5.length
  rw [List.length_map] at lv
  walk_at "t"
  refine i_lenL (SqL.of hl5) ?_
  walk_at "t"
  refine ite2 (fun e1 => ?_) (fun e1 => ?_)
  · have lt : at_ < ws.length := by
      have z := of_decide_eq_true e1
      omega
    have hj : ws[at_]? = some ws[at_] := List.getElem?_eq_getElem lt
    generalize ws[at_] = j at hj
    have jok := wok.ok j (List.mem_of_getElem? hj)
    obtain ⟨x, hx, hxd⟩ := hv5.get (i := at_) (d := jtD j) (by rw [List.getElem?_map, hj]; rfl)
    refine ⟨fun σ' H' => ∃ (ws : List JT) (at2 : Nat) (y6 y7 y8 y9 : Option V), at2 = at_ + 1 ∧ σ' = [some (.ref p), some a, some b, some (.ref l), some (.ref z), some (.int (at2 : Nat)), y6, y7, y8, y9] ∧ St ws H' ∧ WsOk m cl (jt c e) ws at2, fun σ' H' h => ?_, ?_⟩
    · obtain ⟨ws', at2, y6, y7, y8, y9, rfl, e2, e3, e4⟩ := h
      have few2 := jts_few mok e4.nd e4.ok
      have lt2 := e4.at_
      exact ⟨5626 - (at_ + 1), by omega, ws', at_ + 1, y6, y7, y8, y9, e2, e3, e4, rfl⟩
    walk_at "t"
    refine i_ixL (SqL.of hl5) (atI_nat hx) ?_
    walk_at "t"
    refine ⟨_, rfl, _, _, rfl, rfl, ?_⟩
    refine' i_norm (by walk_at "set") ?_
    walk_at "t"
    refine i_fClosed Tc (hp.up k05 (fun x => nomatch x)) ?_
    walk_at "t"
    refine ⟨d, cl, j, rfl, hd.up k05 (fun x => nomatch x), hxd, ?_⟩
    walk_at "t"
    refine ite2 (fun e2 => ?_) (fun e2 => ?_)
    · walk_at "t"
      refine i_fOne Tc (hp.up k05 (fun x => nomatch x)) fun m1 hm1 => ?_
      walk_at "t"
      refine i_ixTi hm1 ix0 ?_
      walk_at "t"
      refine go_forR (k := m.tags) rfl (by have := mok.tags; omega) (fun i σ H' => ∃ (ws : List JT) (y7 y8 y9 : Option V), σ = [some (.ref p), some a, some b, some (.ref l), some (.ref z), some (.int ((at_ : Nat) + 1)), some x, y7, y8, y9] ∧ St ws H' ∧ WsOk m cl (jt c e) ws at_ ∧ ws[at_]? = some j ∧ Dt K H' x (jtD j) ∧
        ∀ t, t < i → ∀ s, s < 2 * many j.2.2 + 1 → ∃ j', j' ∈ ws ∧ stepJ m j t s = some j') ⟨ws, y7, y8, y9, rfl, st5, wok, hj, hxd, fun t ht => absurd ht (Nat.not_lt_zero _)⟩ (fun i σ H6 hi pv => ?_) (fun σ H6 pv => ?_)
      · obtain ⟨ws, y7, y8, y9, rfl, st6, wok, hj, hxd, hdn⟩ := pv
        walk_at "t"
        refine i_ixT hxd ix2 fun h1 hh1 => ?_
        walk_at "t"
        refine ⟨j.2.2, h1, rfl, hh1, by rw [jok.len]; omega, fun H7 k7 => ?_⟩
        have ml := many_le j.2.2
        rw [jok.len] at ml
        refine go_forR (k := 2 * many j.2.2 + 1) (by omega) (by omega) (fun i2 σ H' => ∃ (ws : List JT) (y8 y9 : Option V), σ = [some (.ref p), some a, some b, some (.ref l), some (.ref z), some (.int ((at_ : Nat) + 1)), some x, some (.int (i : Nat)), y8, y9] ∧ St ws H' ∧ WsOk m cl (jt c e) ws at_ ∧ ws[at_]? = some j ∧ Dt K H' x (jtD j) ∧
          (∀ t, t < i → ∀ s, s < 2 * many j.2.2 + 1 → ∃ j', j' ∈ ws ∧ stepJ m j t s = some j') ∧ ∀ s, s < i2 → ∃ j', j' ∈ ws ∧ stepJ m j i s = some j') ⟨ws, y8, y9, rfl, grow _ _ st6 _ k7, wok, hj, hxd.up k7, hdn, fun t ht => absurd ht (Nat.not_lt_zero _)⟩ (fun i2 σ H8 hi2 pv => ?_) (fun σ H8 pv => ?_)
        · obtain ⟨ws, y8, y9, rfl, st8, wok, hj, hxd, hdn, hdn2⟩ := pv
          walk_at "t"
          have hp8 := hp.up st8.1 (fun x => nomatch x)
          refine ⟨i_mAt hp8 (by decide +kernel) (by decide +kernel) (by decide +kernel), ?_⟩
          walk_at "t"
          refine ⟨m, p, d, x, j, i, i2, rfl, hp8, hxd, mok, jok, hi, fun en H9 k9 => ?_, fun j' ej jok' u H9 k9 hu9 => ?_⟩
          · walk_at "t"
            refine ifT (decide_eq_true rfl) ?_
            walk_at "t"
            exact q true H9 cl (st8.1.trans k9).any (hd.up (st8.1.trans k9) (fun x => nomatch x)) hcl (fun z => by cases z)
          · obtain ⟨ua, uxs, rfl, _, _⟩ := dt_tup hu9
            walk_at "t"
            refine ifF (decide_eq_false (fun z => by cases z)) ?_
            walk_at "t"
            have st9 := grow _ _ st8 _ k9
            obtain ⟨k09, ⟨vs9, hl9, hv9⟩, hz9⟩ := id st9
            have few9 := jts_few mok wok.nd wok.ok
            have lv9 := hv9.length
            rw [List.length_map] at lv9
            refine ⟨z, ws, j', rfl, hz9, hu9, ?_⟩
            walk_at "t"
            have put : ∀ ws' : List JT, (∀ y, y ∈ ws → y ∈ ws') → j' ∈ ws' → (∀ t, t < i → ∀ s, s < 2 * many j.2.2 + 1 → ∃ j', j' ∈ ws' ∧ stepJ m j t s = some j') ∧ ∀ s, s < i2 + 1 → ∃ j', j' ∈ ws' ∧ stepJ m j i s = some j' := fun ws' sub hm => by
              refine ⟨fun t ht s hs => ?_, fun s hs => ?_⟩
              · obtain ⟨y, y1, y2⟩ := hdn t ht s hs
                exact ⟨y, sub y y1, y2⟩
              · by_cases q : s < i2
                · obtain ⟨y, y1, y2⟩ := hdn2 s q
                  exact ⟨y, sub y y1, y2⟩
                · obtain rfl : s = i2 := by omega
                  exact ⟨j', hm, ej⟩
            refine ite2 (fun e3 => ?_) (fun e3 => ?_)
            · have nin : j' ∉ ws := fun y => by
                rw [decide_eq_true y] at e3
                cases e3
              walk_at "t"
              refine ⟨z, ws, j', rfl, rfl, hz9, hu9, small' (by omega), fun H10 k10 hz10 => ?_⟩
              rw [if_neg nin] at hz10
              walk_at "t"
              have hl10 : H10 l = some (.lst vs9) := k10.get (fun y => nlz (List.mem_singleton.mp y)) hl9
              refine ⟨ty_lst (SqL.of hl10), ?_⟩
              walk_at "t"
              refine i_append hl10 (by omega) fun H11 k11 hl11 => ?_
              have k0 : Kp [] H H11 := ((k09.fresh k10 fun y hy => .inr (by rw [List.mem_singleton.mp hy]; exact nz0))).fresh k11 fun y hy => .inr (by rw [List.mem_singleton.mp hy]; exact nl0)
              obtain ⟨g1, g2⟩ := put (ws ++ [j']) (fun y hy => List.mem_append_left _ hy) (List.mem_append_right _ List.mem_cons_self)
              refine ⟨ws ++ [j'], _, _, rfl, ⟨k0, ⟨_, hl11, ?_⟩, hz10.up k11 (fun y => nlz (List.mem_singleton.mp y).symm)⟩, wok.grow nin jok', by rw [List.getElem?_append_left (List.getElem?_eq_some_iff.mp hj).1]; exact hj, ((hxd.up k9).up k10).up k11, g1, g2⟩
              rw [List.map_append]
              exact ((hv9.up k10).up k11).append (.one ((hu9.up k10).up k11))
            · have yin : j' ∈ ws := Classical.byContradiction fun y => by
                rw [decide_eq_false y] at e3
                exact e3 rfl
              walk_at "t"
              obtain ⟨g1, g2⟩ := put ws (fun y hy => hy) yin
              exact ⟨ws, _, _, rfl, st9, wok, hj, hxd.up k9, g1, g2⟩
        · obtain ⟨ws, y8, y9, rfl, st8, wok, hj, hxd, hdn, hdn2⟩ := pv
          walk_at "t"
          refine ⟨ws, _, y8, y9, rfl, st8, wok, hj, hxd, fun t ht s hs => ?_⟩
          by_cases q : t < i
          · exact hdn t q s hs
          · obtain rfl : t = i := by omega
            exact hdn2 s hs
      · obtain ⟨ws, y7, y8, y9, rfl, st6, wok, hj, hxd, hdn⟩ := pv
        walk_at "t"
        refine ⟨ws, at_ + 1, _, y7, y8, y9, rfl, rfl, st6, ⟨wok.nd, wok.ok, wok.fst, (List.getElem?_eq_some_iff.mp hj).1, fun i2 j2 hi2 hj2 => ?_⟩⟩
        by_cases q : i2 < at_
        · exact wok.done i2 j2 q hj2
        · obtain rfl : i2 = at_ := by omega
          rw [hj] at hj2
          cases hj2
          exact .inr hdn
    · have jin : j ∈ cl := Classical.byContradiction fun y => by
        rw [decide_eq_false y] at e2
        exact e2 rfl
      walk_at "t"
      refine ⟨ws, at_ + 1, _, y7, y8, y9, rfl, rfl, st5, ⟨wok.nd, wok.ok, wok.fst, lt, fun i2 j2 hi2 hj2 => ?_⟩⟩
      by_cases q : i2 < at_
      · exact wok.done i2 j2 q hj2
      · obtain rfl : i2 = at_ := by omega
        rw [hj] at hj2
        cases hj2
        exact .inl jin
  · have ea : at_ = ws.length := by
      have z : ¬ ((at_ : Nat) : Int) < (vs5.length : Nat) := fun z => e1 (decide_eq_true z)
      have := wok.at_
      omega
    have all : ∀ j, j ∈ ws → j ∈ cl ∨ Done m ws j := fun j hj => by
      obtain ⟨i, hi⟩ := List.mem_iff_getElem?.mp hj
      exact wok.done i j (by rw [ea]; exact (List.getElem?_eq_some_iff.mp hi).1) hi
    walk_at "t"
    refine go_forL (xs := vs5) (SqL.of hl5) (fun i σ H' => ∃ (y6 : Option V) (cl2 : List JT), σ = [some (.ref p), some a, some b, some (.ref l), some (.ref z), some (.int (at_ : Nat)), y6, y7, y8, y9] ∧ Kp [d] H5 H' ∧ DN P w K H' d cl2 ∧ cl2.Nodup ∧ ∀ j, j ∈ cl2 ↔ j ∈ cl ∨ j ∈ ws.take i)
      ⟨y6, cl, rfl, Kp.refl, hd.up k05 (fun x => nomatch x), hcl.nd, fun j => by rw [List.take_zero]; simp⟩ (fun i σ H' _ pv => ?_) (fun i u σ H6 hi pv => ?_) (fun σ H6 pv => ?_)
    · obtain ⟨y6, cl2, rfl, k6, _⟩ := pv
      exact SqL.of (k6.get (fun y => ndl (List.mem_singleton.mp y).symm) hl5)
    · obtain ⟨y6, cl2, rfl, k6, hd6, nd6, mem6⟩ := pv
      obtain ⟨dj, hdj, hud⟩ := hv5.of hi
      rw [List.getElem?_map] at hdj
      obtain ⟨j, hj, rfl⟩ := Option.map_eq_some_iff.mp hdj
      have jok6 : ∀ j ∈ cl2, JOk m j := fun j hj => ((mem6 j).mp hj).elim (hcl.ok j) fun z => wok.ok j (List.mem_of_mem_take z)
      have few6 := jts_few mok nd6 jok6
      walk_at "t"
      refine i_fClosed Tc ((hp.up k05 (fun x => nomatch x)).up k6 (fun y => npd (List.mem_singleton.mp y))) ?_
      walk_at "t"
      refine ⟨d, cl2, j, rfl, rfl, hd6, hud.up k6, small' (by omega), fun H7 k7 hd7 => ?_⟩
      refine ⟨_, _, rfl, k6.trans k7, hd7, nodup_put nd6, fun j2 => ?_⟩
      rw [mem_put, mem6, List.take_add_one, hj, List.mem_append, Option.toList_some, List.mem_singleton]
      exact or_assoc
    · obtain ⟨y6, cl2, rfl, k6, hd6, nd6, mem6⟩ := pv
      rw [lv, List.take_length] at mem6
      walk_at "t"
      refine q false H6 cl2 ((k05.any).trans k6) hd6 ⟨nd6, fun j hj => ((mem6 j).mp hj).elim (hcl.ok j) (wok.ok j), fun j hj t ht s hs => ?_⟩ (fun _ => (mem6 _).mpr (.inr wok.fst))
      have old : j ∈ cl → ∃ j', j' ∈ cl2 ∧ stepJ m j t s = some j' := fun hj => by
        obtain ⟨j', a1, a2⟩ := hcl.closed j hj t ht s hs
        exact ⟨j', (mem6 _).mpr (.inl a1), a2⟩
      rcases (mem6 j).mp hj with hj | hj
      · exact old hj
      · rcases all j hj with hj | hj
        · exact old hj
        · obtain ⟨j', a1, a2⟩ := hj t ht s hs
          exact ⟨j', (mem6 _).mpr (.inr a1), a2⟩
end
theorem intsV_moved {n r : Nat} (h : r < n) : (intsV n evens).take r ++ [V.int (2 * (r : Int) + 1)] ++ (intsV n evens).drop (r + 1) = intsV n (moved r) := by
  refine List.ext_getElem? fun i => ?_
  unfold intsV
  have el : (((List.range n).map fun i => V.int (evens i)).take r).length = r := by rw [List.length_take, List.length_map, List.length_range]; omega
  rw [List.append_assoc]
  by_cases h1 : i < r
  · rw [List.getElem?_append_left (by rw [el]; exact h1), List.getElem?_take, if_pos h1, List.getElem?_map, List.getElem?_map, List.getElem?_range (by omega)]
    show some (V.int (evens i)) = some (V.int (moved r i))
    unfold evens moved
    rw [if_neg (by omega)]
  · rw [List.getElem?_append_right (by rw [el]; omega), el]
    by_cases h2 : i = r
    · subst h2
      rw [Nat.sub_self, List.getElem?_map, List.getElem?_range h]
      show some (V.int (2 * (i : Int) + 1)) = some (V.int (moved i i))
      unfold moved
      rw [if_pos rfl]
    · rw [List.getElem?_append_right (by show 1 ≤ i - r; omega), List.getElem?_drop, List.getElem?_map, List.getElem?_map]
      have e : r + 1 + (i - r - [V.int (2 * (r : Int) + 1)].length) = i := by show r + 1 + (i - r - 1) = i; omega
      rw [e]
      by_cases h3 : i < n
      · rw [List.getElem?_range h3]
        show some (V.int (evens i)) = some (V.int (moved r i))
        unfold evens moved
        rw [if_neg h2]
      · rw [List.getElem?_eq_none (by rw [List.length_range]; omega)]
        rfl
def spNeededBy (P : Program) (w : World) (K : PySem.W.Frag) (C : Addr) : Sp := fun vs H Q _ => ∃ (m : Mach) (p d : Addr) (cl : List JT) (a : V) (s : Nat) (rs : Held), vs = [.ref p, a] ∧ PI K C m H p d ∧ DN P w K H d cl ∧ CL m cl ∧ m.Ok ∧ Kind m s rs ∧ Dt K H a (contD (s, rs)) ∧
  ∀ u H' (found : List Nat), Kp [d] H H' → Dt K H' u (.tuple (found.map fun k => .int (k : Nat))) → found.length ≤ 4 → (∀ k, k < many rs → k ∉ found → Free m s rs k) → Q u H'
def spNeeded (K : PySem.W.Frag) : Sp := fun vs H Q _ => ∃ (m : Mach) (am a : V) (s : Nat) (rs : Held), vs = [am, a] ∧ Dt K H am (machD m) ∧ m.Ok ∧ Kind m s rs ∧ Dt K H a (contD (s, rs)) ∧
  ∀ u H' (found : List Nat), Kp [] H H' → Dt K H' u (.tuple (found.map fun k => .int (k : Nat))) → found.length ≤ 4 → (∀ k, k < many rs → k ∉ found → Free m s rs k) → Q u H'
section
variable {P : Program} {w : World} {K : PySem.W.Frag} {mg : Str → Option Value} {base : Heap} {C : Addr}
theorem ok_needed_by (F : FT K mg "needed_by" s_needed_by ["pair", "kind"]) (T : Tx mg) (Tc : TC K mg C) (G_is_parted : MG P w K mg base C 8 "is_parted" ["self", "content", "another"] (spParted P w K C)) (G_with_values : FG P w K mg base 1 "with_values" ["kind", "values"] (spWith K))
    (G_spots_of : FG P w K mg base 1 "spots_of" ["ranks"] (spSpots K)) : FG P w K mg base 9 "needed_by" ["pair", "kind"] (spNeededBy P w K C) := by
  have G_with_values := G_with_values.mono (show 1 ≤ 8 by omega)
  have G_spots_of := G_spots_of.mono (show 1 ≤ 8 by omega)
  refine F.ok sc_needed_by (fun vs H Q E h => ?_) (fun f cdv A outer s H vs Q E hr h => ?_)
  · obtain ⟨_, _, _, _, _, _, _, rfl, _⟩ := h
    rfl
  obtain ⟨m, p, d, cl, a, s0, rs, rfl, hp, hd, hcl, mok, kd, ha, q⟩ := h
  have rg := mok.regs
  have rl : rs.length ≤ 2 := by rw [kd.len]; exact rg
  have ml := many_le rs
  have npd : p ≠ d := fun e => by
    obtain ⟨dx, _, _, z, _⟩ := hp.ex
    obtain ⟨ks, y, _⟩ := hd
    rw [e, y] at z
    cases z
  have hd0 : H d ≠ none := by
    obtain ⟨ks, z, _⟩ := hd
    rw [z]
    exact fun y => by cases y
  have sc := sc_needed_by
  refine ⟨_, (pss_cons (ps_set (i := 2) sc.nd rfl (.inl rfl) (pe_op op_fdiv (pe_cg G_spots_of hr (by rfl) (pa_cons (pe_ix ix_tup (pv 1) pe_int (fun _ _ => rfl)) pa_nil)) pe_int))
    (pss_cons (ps_setLc (i := 4) (te := (tOp _ (tC (.int 2)) (tVar 3))) (own := [("rank", 3)]) rfl sc.nd rfl rfl (sw_true rfl rfl rfl (by decide +kernel)) (pi_range1 (by rfl) T.b_range (pa_cons (pv 2) pa_nil)) (blkOk_by (own := [("rank", 3)]) (N := ["pair", "kind", "many", "rank", "values", "found", "moved"]) (sc := defScope s_needed_by) (by decide +kernel)) (fun _ _ _ _ _ => (pg_name (i := 3) sc.nd rfl (.inl rfl))) (fun _ _ _ _ _ => pts_nil) (fun _ _ _ _ _ => (pe_op op_mul pe_int (pv 3))))
    (pss_cons (ps_set (i := 5) sc.nd rfl (.inl rfl) (pe_lst pa_nil))
    (pss_cons (ps_for PassesOwn.never rfl (pi_range1 (by rfl) T.b_range (pa_cons (pv 2) pa_nil)) (pg_name (i := 3) sc.nd rfl (.inl rfl))
    (pss_cons (ps_set (i := 6) sc.nd rfl (.inl rfl) (pe_op op_cat (pe_op op_cat (pe_slice sl_list (pv 4) po_none (po_some (pv 3))) (pe_lst (pa_cons (pe_op op_add (pe_op op_mul pe_int (pv 3)) pe_int) pa_nil))) (pe_slice sl_list (pv 4) (po_some (pe_op op_add (pv 3) pe_int)) po_none)))
    (pss_one (ps_if (pt_val (pe_cm (pv 0) Tc.cl G_is_parted hr (pa_cons (pe_cg G_with_values hr (by rfl) (pa_cons (pv 1) (pa_cons (pv 4) pa_nil))) (pa_cons (pe_cg G_with_values hr (by rfl) (pa_cons (pv 1) (pa_cons (pv 6) pa_nil))) pa_nil))))
    (pss_one (ps_expr (pe_bm PySem.F.plainAttrs_list PySem.F.slot_list_append PySem.F.type_list_append mt_append (pv 5) (pa_cons (pv 3) pa_nil))))
    pss_nil))))
    (pss_one (ps_ret (pe_callTy call_tupD (by rfl) T.b_tuple (by decide +kernel) (pa_cons (pv 5) pa_nil)))))))), ?_⟩
  refine' i_start (by walk_at "set") ?_
  walk_at "t"
  refine i_ixT ha ix1 fun w1 h1 => ?_
  walk_at "t"
  refine ⟨rs, w1, rfl, h1, by omega, fun H1 k1 => ?_⟩
  walk_at "t"
  refine i_I ⟨by decide, by decide⟩ ?_
  have em : (2 * ((many rs : Nat) : Int) + 1) / 2 = (many rs : Nat) := by omega
  rw [em]
  walk_at "t"
  refine go_lcR (M := []) (k := many rs) rfl (by omega) (fun i acc _ => acc = intsV i evens) (fun i acc H1 H2 D _ _ p => p) rfl (fun i acc H4 D hi k4 hD hacc hlt p R1 R0 r1 r0 => ?_) (fun l H4 acc k4 nl hl' hle pp => ?_)
  · refine' t_yes (by decide) (by walk_at "set") ?_
    walk_at "t"
    refine i_I (.inl ⟨by decide, by decide⟩) ?_
    refine r1 _ _ hacc k4 ?_
    rw [p]
    unfold intsV
    rw [List.range_succ, List.map_append]
    rfl
  subst pp
  walk_at "t"
  refine g_lst (Nat.zero_le _) fun l2 H5 k5 n5 e5 => ?_
  walk_at "t"
  have k05 : Kp [] H H5 := (k1.trans k4).trans k5
  have l5 := k5.get0 hl'
  have ndl : l ≠ d := fun e => hd0 (by rw [← e]; exact k1.free nl)
  have n20 : H l2 = none := (k1.trans k4).free n5
  have ndl2 : l2 ≠ d := fun e => hd0 (by rw [← e]; exact n20)
  have nll2 : l ≠ l2 := fun e => by
    rw [← e, hl'] at n5
    cases n5
  have npl2 : p ≠ l2 := fun e => by
    obtain ⟨dx, _, _, z, _⟩ := hp.ex
    rw [e, n20] at z
    cases z
  refine go_forR (k := many rs) rfl (by omega) (fun i σ H' => ∃ (y3 y6 : Option V) (cl2 : List JT) (found : List Nat), σ = [some (.ref p), some a, some (.int (many rs : Nat)), y3, some (.ref l), some (.ref l2), y6] ∧ Kp [d, l2] H5 H' ∧ DN P w K H' d cl2 ∧ CL m cl2 ∧ H' l2 = some (.lst (found.map fun k => .int (k : Nat))) ∧ found.length ≤ i ∧
    ∀ k, k < i → k ∉ found → Free m s0 rs k) ⟨none, none, cl, [], rfl, Kp.refl, hd.up k05 (fun z => nomatch z), hcl, e5, Nat.le_refl _, fun k hk => absurd hk (Nat.not_lt_zero _)⟩ (fun i σ H6 hi pv => ?_) (fun σ H6 pv => ?_)
  · obtain ⟨y3, y6, cl2, found, rfl, k6, hd6, hcl6, e6, hlen, hfree⟩ := pv
    have l6 : H6 l = some (.lst (intsV (many rs) evens)) := k6.get (by simp [ndl, nll2]) l5
    walk_at "t"
    refine i_slTo_L (SqL.of l6) fun p1 H7 k7 np1 hp1 => ?_
    walk_at "t"
    refine i_I (.inl ⟨by decide, by decide⟩) ?_
    walk_at "t"
    refine g_lst (by show 1 ≤ 100000; decide) fun p2 H8 k8 np2 hp2 => ?_
    have iv := intsV_len (many rs) evens
    refine i_catL (k8.get0 hp1) hp2 (by rw [List.length_take]; show _ + 1 ≤ _; omega) fun p3 H9 k9 np3 hp3 => ?_
    walk_at "t"
    refine i_slFrom_L (k := i + 1) (SqL.of (((k7.trans k8).trans k9).get0 l6)) fun p4 H10 k10 np4 hp4 => ?_
    refine i_catL (k10.get0 hp3) hp4 (by rw [List.length_append, List.length_take, List.length_drop]; show _ + 1 + _ ≤ _; omega) fun p5 H11 k11 np5 hp5 => ?_
    rw [intsV_moved hi] at hp5
    have k611 := (((k7.trans k8).trans k9).trans k10).trans k11
    have k0 : Kp [d, l2] H H11 := (k05.any.trans k6).trans k611.any
    have ha11 := ha.up k0
    have hp11 := hp.up k0 (by simp [npd, npl2])
    walk_at "t"
    refine ⟨i_mAt hp11 (by decide +kernel) (by decide +kernel) (by decide +kernel), ?_⟩
    walk_at "t"
    refine ⟨s0, rs, many rs, evens, a, l, rfl, ha11, k611.get0 l6, by omega, kd.rk, fun u1 H12 k12 hu1 => ?_⟩
    walk_at "t"
    refine ⟨s0, rs, many rs, moved i, a, p5, rfl, ha11.up k12, k12.get0 hp5, by omega, kd.rk, fun u2 H13 k13 hu2 => ?_⟩
    have k1113 := k12.trans k13
    refine ⟨m, p, d, cl2, u1, u2, _, _, rfl, hp11.up k1113 (fun z => nomatch z), hd6.up (k611.trans k1113) (fun z => nomatch z), hcl6, mok, withF_in kd evens, withF_in kd (moved i), hu1.up k13, hu2, fun r H14 cl3 k14 hd14 hcl14 hr14 => ?_⟩
    have e14 : H14 l2 = some (.lst (found.map fun k => .int (k : Nat))) := k14.get (by simp [ndl2]) ((k611.trans k1113).get0 e6)
    have kk : Kp [d, l2] H5 H14 := (k6.trans (k611.trans k1113).any).trans (k14.mono (fun x hx => by rw [List.mem_singleton.mp hx]; exact List.mem_cons_self))
    walk_at "t"
    refine ite2 (fun er => ?_) (fun er => ?_)
    · walk_at "t"
      refine ⟨ty_lst (SqL.of e14), ?_⟩
      walk_at "t"
      refine i_append e14 (by rw [List.length_map]; omega) fun H15 k15 e15 => ?_
      refine ⟨_, _, cl3, found ++ [i], rfl, kk.trans (k15.mono (fun x hx => by rw [List.mem_singleton.mp hx]; exact List.mem_cons_of_mem _ List.mem_cons_self)), hd14.up k15 (by simp [Ne.symm ndl2]), hcl14, by rw [List.map_append]; exact e15, by rw [List.length_append, List.length_singleton]; omega, fun k hk hkn => ?_⟩
      rw [List.mem_append, List.mem_singleton] at hkn
      exact hfree k (by have : k ≠ i := fun z => hkn (.inr z); omega) fun z => hkn (.inl z)
    · walk_at "t"
      refine ⟨_, _, cl3, found, rfl, kk, hd14, hcl14, e14, by omega, fun k hk hkn => ?_⟩
      by_cases hki : k < i
      · exact hfree k hki hkn
      · obtain rfl : k = i := by omega
        exact ⟨(· ∈ cl3), hcl14.closed, hr14 (Bool.eq_false_iff.mpr er)⟩
  · obtain ⟨y3, y6, cl2, found, rfl, k6, hd6, hcl6, e6, hlen, hfree⟩ := pv
    walk_at "t"
    refine i_tupL (ds := found.map fun k => .int (k : Nat)) e6 ?_ fun u H7 k7 hu => ?_
    · have e := dtAll_ints (K := K) (H := H6) (found.map fun k => ((k : Nat) : Int))
      rw [List.map_map, List.map_map] at e
      exact e
    · refine q u H7 found ?_ hu (by omega) hfree
      refine (k05.any (N := [d])).fresh (k6.trans k7.any) ?_
      intro x hx
      rcases List.mem_cons.mp hx with e | e
      · exact .inl (by rw [e]; exact List.mem_cons_self)
      · exact .inr (by rw [List.mem_singleton.mp e]; exact n20)
theorem cl_nil (m : Mach) : CL m [] := ⟨List.nodup_nil, fun _ h => (nomatch h), fun _ h => (nomatch h)⟩
theorem ok_needed (F : FT K mg "needed" s_needed ["machine", "kind"]) (T : Tx mg) (Tc : TC K mg C) (G_init : MG P w K mg base C 1 "__init__" ["self", "one", "other"] (spInit P w K C)) (G_needed_by : FG P w K mg base 9 "needed_by" ["pair", "kind"] (spNeededBy P w K C)) :
    FG P w K mg base 10 "needed" ["machine", "kind"] (spNeeded K) := by
  have G_init := G_init.mono (show 1 ≤ 8 by omega)
  refine F.ok sc_needed (fun vs H Q E h => ?_) (fun f cdv A outer s H vs Q E hr h => ?_)
  · obtain ⟨_, _, _, _, _, rfl, _⟩ := h
    rfl
  obtain ⟨m, am, a, s0, rs, rfl, hm, mok, kd, ha, q⟩ := h
  have sc := sc_needed
  refine ⟨_, (pss_one (ps_ret (pe_cg G_needed_by hr (by rfl) (pa_cons (pe_mk Tc G_init hr (by rfl) (pa_cons (pv 0) (pa_cons (pv 0) pa_nil))) (pa_cons (pv 1) pa_nil))))), ?_⟩
  refine' i_start (by walk_at "set") ?_
  walk_at "t"
  intro x dx nx ndx nxd
  have k1 : Kp [] H (upd H dx (.own x)) := Kp.new ndx
  have nx1 : (upd H dx (.own x)) x = none := by rw [upd_ne (Ne.symm nxd)]; exact nx
  have k2 := k1.trans (Kp.new (M := []) (o := .ins C dx []) nx1)
  refine ⟨m, x, dx, am, am, rfl, upd_same, hm.up k2, hm.up k2, fun d H1 k3 hp nd hd => ⟨rfl, ?_⟩⟩
  have k03 : Kp [] H H1 := k2.fresh k3 fun y hy => .inr (by rw [List.mem_singleton.mp hy]; exact nx)
  walk_at "t"
  refine ⟨m, x, d, [], a, s0, rs, rfl, hp, hd, cl_nil m, mok, kd, ha.up k03, fun u H2 found k4 hu hf hfree => ?_⟩
  exact q u H2 found (k03.fresh k4 fun y hy => .inr (by rw [List.mem_singleton.mp hy]; exact k2.free nd)) hu hf hfree
end
/-! ### the law's own reading of machines -/
section
variable {K : PySem.W.Frag} {H : Hp} {Q : VK}
theorem any_false (bs : List Bool) : inV (.bl false) (bs.map V.bl) = !bs.all id := by
  induction bs with
  | nil => rfl
  | cons b bs ih =>
    unfold inV at ih ⊢
    rw [List.map_cons, List.any_cons, ih, List.all_cons]
    cases b <;> rfl
theorem any_true (bs : List Bool) : inV (.bl true) (bs.map V.bl) = bs.any id := by
  induction bs with
  | nil => rfl
  | cons b bs ih =>
    unfold inV at ih ⊢
    rw [List.map_cons, List.any_cons, ih, List.any_cons]
    cases b <;> rfl
theorem flat_bls (bs : List Bool) : (bs.map V.bl).all flatV = true := by
  rw [List.all_eq_true]
  intro y hy
  obtain ⟨z, _, rfl⟩ := List.mem_map.mp hy
  rfl
theorem i_notInB {l : Addr} {bs : List Bool} (h : H l = some (.lst (bs.map V.bl))) (q : Q (.bl (bs.all id)) H) : rIn K true (.bl false) (.ref l) H Q := by
  refine ⟨l, _, rfl, .inl (SqL.of h), rfl, flat_bls bs, ?_⟩
  rw [if_pos rfl, any_false, Bool.not_not]
  exact q
theorem i_inB {l : Addr} {bs : List Bool} (h : H l = some (.lst (bs.map V.bl))) (q : Q (.bl (bs.any id)) H) : rIn K false (.bl true) (.ref l) H Q := by
  refine ⟨l, _, rfl, .inl (SqL.of h), rfl, flat_bls bs, ?_⟩
  rw [if_neg Bool.false_ne_true, any_true]
  exact q
end
abbrev s_l_at : Stmt := topS 28
theorem sc_l_at : FnScope ["_law_source", "_law_value", "_law_held"] ["_law_source", "_law_value", "_law_held"] (defScope s_l_at) := ⟨rfl, rfl, rfl, by decide +kernel, rfl, by decide +kernel, by decide +kernel⟩
section
variable {P : Program} {w : World} {K : PySem.W.Frag} {mg : Str → Option Value} {base : Heap}
theorem ok_l_at (F : FT K mg "_law_at" s_l_at ["_law_source", "_law_value", "_law_held"]) (T : Tx mg) : FG P w K mg base 1 "_law_at" ["_law_source", "_law_value", "_law_held"] (spValue K) := by
  refine F.ok sc_l_at (fun vs H Q E h => ?_) (fun f cdv A outer s H vs Q E hr h => ?_)
  · obtain ⟨_, _, _, _, rfl, _⟩ := h
    rfl
  obtain ⟨src, v, held, u, rfl, hu, hs, q⟩ := h
  have sc := sc_l_at
  refine ⟨_, (pss_cons (ps_if (pt_cmpR op_eq (pv 0) (pe_un un_neg pe_int) (nomark _))
    (pss_one (ps_ret pe_non))
    pss_nil)
    (pss_cons (ps_if (pt_cmpR op_eq (pv 0) (pe_un un_neg pe_int) (nomark _))
    (pss_one (ps_ret (pv 1)))
    pss_nil)
    (pss_one (ps_ret (pe_ix ix_tup (pv 2) (pv 0) (fun _ _ => rfl)))))), ?_⟩
  refine' i_start (by walk_at "set") ?_
  unfold valAt at q
  walk_at "rd"
  refine ite2 (fun e => ?_) (fun e => ?_)
  · walk_at "rd"
    have e1 : src = -2 := of_decide_eq_true e
    rw [if_neg (by omega), if_pos e1] at q
    exact q
  · walk_at "rd"
    have e1 : ¬ src = -2 := fun z => e (decide_eq_true z)
    refine ite2 (fun e => ?_) (fun e => ?_)
    · walk_at "rd"
      have e2 : src = -1 := of_decide_eq_true e
      rw [if_pos e2] at q
      exact q
    · walk_at "rd"
      have e2 : ¬ src = -1 := fun z => e (decide_eq_true z)
      rw [if_neg e2, if_neg e1] at q
      have hs' : 0 ≤ src ∧ src < held.length := by
        rcases hs with z | z | z
        · exact absurd z e2
        · exact absurd z e1
        · exact z
      have hj : src.toNat < held.length := by omega
      rw [List.getElem?_eq_getElem hj, Option.getD_some] at q
      have ix : atI (held.map oI) src = some (oI held[src.toNat]) := atI_map (atI_toNat hs'.1 (List.getElem?_eq_getElem hj))
      exact i_ixTo (o := held[src.toNat]) hu ix q
end
abbrev s_l_holds : Stmt := topS 29
theorem sc_l_holds : FnScope ["_law_condition_here", "_law_value", "_law_held", "_law_kind", "_law_one", "_law_other", "_law_part"] ["_law_condition_here", "_law_value", "_law_held"] (defScope s_l_holds) := ⟨rfl, rfl, rfl, by decide +kernel, rfl, by decide +kernel, by decide +kernel⟩
section
variable {P : Program} {w : World} {K : PySem.W.Frag} {mg : Str → Option Value} {base : Heap}
theorem ok_l_holds_step {n : Nat} (F : FT K mg "_law_holds" s_l_holds ["_law_condition_here", "_law_value", "_law_held"]) (T : Tx mg) (G_l_at : FG P w K mg base (n + 1) "_law_at" ["_law_source", "_law_value", "_law_held"] (spValue K))
    (G_l_holds : FG P w K mg base (n + 1) "_law_holds" ["_law_condition_here", "_law_value", "_law_held"] (spHolds K n)) : FG P w K mg base (n + 2) "_law_holds" ["_law_condition_here", "_law_value", "_law_held"] (spHolds K (n + 1)) := by
  refine F.ok sc_l_holds (fun vs H Q E h => ?_) (fun f cdv A outer s H vs Q E hr h => ?_)
  · obtain ⟨_, _, _, _, _, rfl, _⟩ := h
    rfl
  obtain ⟨c, v, hd, u, t, rfl, hu, ht, hok, q⟩ := h
  have sc := sc_l_holds
  refine ⟨_, (pss_cons (ps_set (i := 3) sc.nd rfl (.inl rfl) (pe_ix ix_tup (pv 0) pe_int (fun _ _ => rfl)))
    (pss_cons (ps_if (pt_cmpR op_eq (pv 3) pe_str (nomark _))
    (pss_one (ps_ret (pe_not (pe_cg G_l_holds hr (by rfl) (pa_cons (pe_ix ix_tup (pv 0) pe_int (fun _ _ => rfl)) (pa_cons (pv 1) (pa_cons (pv 2) pa_nil)))))))
    pss_nil)
    (pss_cons (ps_if (pt_cmpR op_eq (pv 3) pe_str (nomark _))
    (pss_one (ps_ret (pe_cmpR op_notIn_seq pe_bl (pe_lc (te := (tCall _ [] E0 (tCons (tVar 6) (tCons (tVar 1) (tCons (tVar 2) tNil))))) (own := [("_law_part", 6)]) rfl sc.nd (pi_tup (pe_ix ix_tup (pv 0) pe_int (fun _ _ => rfl))) (blkOk_by (own := [("_law_part", 6)]) (N := ["_law_condition_here", "_law_value", "_law_held", "_law_kind", "_law_one", "_law_other", "_law_part"]) (sc := defScope s_l_holds) (by decide +kernel)) (fun _ _ _ _ _ => (pg_name (i := 6) sc.nd rfl (.inl rfl))) (fun _ _ _ _ _ => pts_nil) (fun _ _ _ _ _ => (pe_cg G_l_holds hr (by rfl) (pa_cons (pv 6) (pa_cons (pv 1) (pa_cons (pv 2) pa_nil)))))) rfl)))
    pss_nil)
    (pss_cons (ps_if (pt_cmpR op_eq (pv 3) pe_str (nomark _))
    (pss_one (ps_ret (pe_cmpR op_in_seq pe_bl (pe_lc (te := (tCall _ [] E0 (tCons (tVar 6) (tCons (tVar 1) (tCons (tVar 2) tNil))))) (own := [("_law_part", 6)]) rfl sc.nd (pi_tup (pe_ix ix_tup (pv 0) pe_int (fun _ _ => rfl))) (blkOk_by (own := [("_law_part", 6)]) (N := ["_law_condition_here", "_law_value", "_law_held", "_law_kind", "_law_one", "_law_other", "_law_part"]) (sc := defScope s_l_holds) (by decide +kernel)) (fun _ _ _ _ _ => (pg_name (i := 6) sc.nd rfl (.inl rfl))) (fun _ _ _ _ _ => pts_nil) (fun _ _ _ _ _ => (pe_cg G_l_holds hr (by rfl) (pa_cons (pv 6) (pa_cons (pv 1) (pa_cons (pv 2) pa_nil)))))) rfl)))
    pss_nil)
    (pss_cons (ps_if (PW.pt (pw_or (pt_cmpR op_eq (pv 3) pe_str (nomark _)) (pw_or1 (pt_cmpR op_eq (pv 3) pe_str (nomark _)))))
    (pss_one (ps_ret (pe_cmpR op_eq (pv 3) pe_str (nomark _))))
    pss_nil)
    (pss_cons (ps_set (i := 4) sc.nd rfl (.inl rfl) (pe_cg G_l_at hr (by rfl) (pa_cons (pe_ix ix_tup (pv 0) pe_int (fun _ _ => rfl)) (pa_cons (pv 1) (pa_cons (pv 2) pa_nil)))))
    (pss_cons (ps_if (pt_cmpR op_eq (pv 3) pe_str (nomark _))
    (pss_one (ps_ret (pe_cmp (pc_isN (pv 4)) rfl)))
    pss_nil)
    (pss_cons (ps_set (i := 5) sc.nd rfl (.inl rfl) (pe_cg G_l_at hr (by rfl) (pa_cons (pe_ix ix_tup (pv 0) pe_int (fun _ _ => rfl)) (pa_cons (pv 1) (pa_cons (pv 2) pa_nil)))))
    (pss_cons (ps_if (PW.pt (pw_or (pt_cmp (pc_isN (pv 4)) rfl) (pw_or1 (pt_cmp (pc_isN (pv 5)) rfl))))
    (pss_one (ps_ret pe_bl))
    pss_nil)
    (pss_cons (ps_if (pt_cmpR op_eq (pv 3) pe_str (nomark _))
    (pss_one (ps_ret (pe_cmpR op_lt (pv 4) (pv 5) (nomark _))))
    pss_nil)
    (pss_one (ps_ret (pe_cmpR op_eq (pv 4) (pv 5) (nomark _)))))))))))))), ?_⟩
  refine' i_start (by walk_at "set") ?_
  cases c with
  | tt =>
    walk_at "rd"; refine i_ixTs hu ix0 ?_
    repeat (first | walk_at "rd" | walk_at "br")
    exact q H Kp.refl
  | ff =>
    walk_at "rd"; refine i_ixTs hu ix0 ?_
    repeat (first | walk_at "rd" | walk_at "br")
    exact q H Kp.refl
  | not c =>
    rw [Cond.ok] at hok
    walk_at "rd"; refine i_ixTs hu ix0 ?_
    repeat (first | walk_at "rd" | walk_at "br")
    refine i_ixT hu ix1 fun z hz => ?_
    repeat (first | walk_at "rd" | walk_at "br")
    refine ⟨c, v, hd, z, t, rfl, hz, ht, hok, fun H' k => ?_⟩
    walk_at "rd"
    exact q H' k
  | all cs =>
    rw [Cond.ok] at hok
    walk_at "rd"; refine i_ixTs hu ix0 ?_
    repeat (first | walk_at "rd" | walk_at "br")
    refine i_ixT hu ix1 fun z hz => ?_
    rw [condDs_map] at hz
    refine go_lcT (M := []) hz (by rw [List.length_map]; omega) (fun i acc _ => acc = ((cs.take i).map (holds v hd)).map V.bl) (fun i acc H1 H2 D _ _ p => p) rfl (fun i d x acc H1 D hi hx k hD hacc hl p R1 R0 r1 r0 => ?_) (fun l H2 acc k nl hl' hle p => ?_)
    · refine' t_yes (by decide) (by walk_at "set") ?_
      rw [List.getElem?_map] at hi
      obtain ⟨c, hc, rfl⟩ := Option.map_eq_some_iff.mp hi
      repeat (first | walk_at "rd" | walk_at "br")
      refine ⟨c, v, hd, x, t, rfl, hx, ht.up k, okAll_len hok.1 hc, fun H' k' => ?_⟩
      refine r1 _ H' (k'.get0 hacc) (k.trans k') ?_
      rw [p, ← take_map_next hc, List.map_append]
      rfl
    · refine i_notInB (bs := cs.map (holds v hd)) ?_ ?_
      · rw [hl', p, List.length_map, List.take_length]
      · have e := q H2 k
        rw [holds, holdsAll_eq] at e
        exact e
  | any cs =>
    rw [Cond.ok] at hok
    walk_at "rd"; refine i_ixTs hu ix0 ?_
    repeat (first | walk_at "rd" | walk_at "br")
    refine i_ixT hu ix1 fun z hz => ?_
    rw [condDs_map] at hz
    refine go_lcT (M := []) hz (by rw [List.length_map]; omega) (fun i acc _ => acc = ((cs.take i).map (holds v hd)).map V.bl) (fun i acc H1 H2 D _ _ p => p) rfl (fun i d x acc H1 D hi hx k hD hacc hl p R1 R0 r1 r0 => ?_) (fun l H2 acc k nl hl' hle p => ?_)
    · refine' t_yes (by decide) (by walk_at "set") ?_
      rw [List.getElem?_map] at hi
      obtain ⟨c, hc, rfl⟩ := Option.map_eq_some_iff.mp hi
      repeat (first | walk_at "rd" | walk_at "br")
      refine ⟨c, v, hd, x, t, rfl, hx, ht.up k, okAll_len hok.1 hc, fun H' k' => ?_⟩
      refine r1 _ H' (k'.get0 hacc) (k.trans k') ?_
      rw [p, ← take_map_next hc, List.map_append]
      rfl
    · refine i_inB (bs := cs.map (holds v hd)) ?_ ?_
      · rw [hl', p, List.length_map, List.take_length]
      · have e := q H2 k
        rw [holds, holdsAny_eq] at e
        exact e
  | empty a =>
    rw [Cond.ok] at hok
    have q := q H Kp.refl
    rw [holds] at q
    walk_at "rd"; refine i_ixTs hu ix0 ?_
    repeat (first | walk_at "rd" | walk_at "br")
    refine i_ixTi hu ix1 ?_
    repeat (first | walk_at "rd" | walk_at "br")
    refine ⟨a, v, hd, t, rfl, ht, hok.src, ?_⟩
    repeat (first | walk_at "rd" | walk_at "br")
    cases e : valAt a v hd with
    | none => rw [e] at q; exact q
    | some z => rw [e] at q; exact q
  | less a b =>
    rw [Cond.ok] at hok
    have q := q H Kp.refl
    rw [holds] at q
    walk_at "rd"; refine i_ixTs hu ix0 ?_
    repeat (first | walk_at "rd" | walk_at "br")
    refine i_ixTi hu ix1 ?_
    repeat (first | walk_at "rd" | walk_at "br")
    refine ⟨a, v, hd, t, rfl, ht, hok.1.src, ?_⟩
    repeat (first | walk_at "rd" | walk_at "br")
    refine i_ixTi hu ix2 ?_
    repeat (first | walk_at "rd" | walk_at "br")
    refine ⟨b, v, hd, t, rfl, ht, hok.2.src, ?_⟩
    cases ea : valAt a v hd with
    | none =>
      rw [ea] at q
      repeat (first | walk_at "rd" | walk_at "br")
      exact q
    | some x =>
      cases eb : valAt b v hd with
      | none =>
        rw [ea, eb] at q
        repeat (first | walk_at "rd" | walk_at "br")
        exact q
      | some y =>
        rw [ea, eb] at q
        repeat (first | walk_at "rd" | walk_at "br")
        exact i_I0 q
  | same a b =>
    rw [Cond.ok] at hok
    have q := q H Kp.refl
    rw [holds] at q
    walk_at "rd"; refine i_ixTs hu ix0 ?_
    repeat (first | walk_at "rd" | walk_at "br")
    refine i_ixTi hu ix1 ?_
    repeat (first | walk_at "rd" | walk_at "br")
    refine ⟨a, v, hd, t, rfl, ht, hok.1.src, ?_⟩
    repeat (first | walk_at "rd" | walk_at "br")
    refine i_ixTi hu ix2 ?_
    repeat (first | walk_at "rd" | walk_at "br")
    refine ⟨b, v, hd, t, rfl, ht, hok.2.src, ?_⟩
    cases ea : valAt a v hd with
    | none =>
      rw [ea] at q
      repeat (first | walk_at "rd" | walk_at "br")
      exact q
    | some x =>
      cases eb : valAt b v hd with
      | none =>
        rw [ea, eb] at q
        repeat (first | walk_at "rd" | walk_at "br")
        exact q
      | some y =>
        rw [ea, eb] at q
        repeat (first | walk_at "rd" | walk_at "br")
        exact i_eqI q
theorem ok_l_holds (F : FT K mg "_law_holds" s_l_holds ["_law_condition_here", "_law_value", "_law_held"]) (T : Tx mg) (G : FG P w K mg base 1 "_law_at" ["_law_source", "_law_value", "_law_held"] (spValue K)) : ∀ n, FG P w K mg base (n + 1) "_law_holds" ["_law_condition_here", "_law_value", "_law_held"] (spHolds K n)
  | 0 => by
    obtain ⟨f, fd, F, m, b⟩ := F.ex
    have no : ∀ vs H Q E, ¬ spHolds K 0 vs H Q E := fun vs H Q E h => by
      obtain ⟨_, _, _, _, _, _, _, _, z, _⟩ := h
      rw [Cond.ok] at z
      exact z
    exact ⟨f, fd, ⟨fun vs H Q E h => absurd h (no vs H Q E), fun A outer s H args us vs Q E _ _ _ _ h => absurd h (no vs H Q E)⟩, m, F.kp, b⟩
  | n + 1 => ok_l_holds_step F T (G.mono (by omega)) (ok_l_holds F T G n)
end
abbrev s_l_case : Stmt := topS 30
theorem sc_l_case : FnScope ["_law_machine_here", "_law_content", "_law_entry", "_law_cases", "_law_k"] ["_law_machine_here", "_law_content", "_law_entry"] (defScope s_l_case) := ⟨rfl, rfl, rfl, by decide +kernel, rfl, by decide +kernel, by decide +kernel⟩
abbrev s_l_read : Stmt := topS 31
theorem sc_l_read : FnScope ["_law_machine_here", "_law_content", "_law_entry", "_law_number", "_law_case_here", "_law_held", "_law_source", "_law_said"] ["_law_machine_here", "_law_content", "_law_entry"] (defScope s_l_read) := ⟨rfl, rfl, rfl, by decide +kernel, rfl, by decide +kernel, by decide +kernel⟩
abbrev s_l_answers : Stmt := topS 34
theorem sc_l_answers : FnScope ["_law_machine_here", "_law_content", "_law_log_here", "_law_found", "_law_entry", "_law_after"] ["_law_machine_here", "_law_content", "_law_log_here"] (defScope s_l_answers) := ⟨rfl, rfl, rfl, by decide +kernel, rfl, by decide +kernel, by decide +kernel⟩
def logD (l : List (Nat × Int)) : PyData := .tuple (l.map entryD)
def answersD (a : List Answer) : PyData := .tuple (a.map ansD)
def spAnswers (K : PySem.W.Frag) : Sp := fun vs H Q _ => ∃ (m : Mach) (c : Content) (log : List (Nat × Int)) (am ac al : V), vs = [am, ac, al] ∧ Dt K H am (machD m) ∧ Dt K H ac (contD c) ∧ Dt K H al (logD log) ∧ m.Ok ∧ m.In c ∧ (∀ e ∈ log, e.1 < m.tags) ∧ log.length ≤ 60 ∧
  ∀ u H', Kp [] H H' → Dt K H' u (answersD (m.answers c log)) → Q u H'
section
variable {P : Program} {w : World} {K : PySem.W.Frag} {mg : Str → Option Value} {base : Heap}
theorem ok_l_case (F : FT K mg "_law_case" s_l_case ["_law_machine_here", "_law_content", "_law_entry"]) (T : Tx mg) (G_l_holds : FG P w K mg base 4 "_law_holds" ["_law_condition_here", "_law_value", "_law_held"] (spHolds K 3)) : FG P w K mg base 5 "_law_case" ["_law_machine_here", "_law_content", "_law_entry"] (spCase K) := by
  refine F.ok sc_l_case (fun vs H Q E h => ?_) (fun f cdv A outer s H vs Q E hr h => ?_)
  · obtain ⟨_, _, _, _, ⟨⟨_, _, _, rfl, _⟩, _⟩, _⟩ := h
    rfl
  obtain ⟨m, c, t, v, ⟨⟨am, ac, ae, rfl, hm, hc, he⟩, mok, cin, htg⟩, q⟩ := h
  have sc := sc_l_case
  refine ⟨_, (pss_cons (ps_set (i := 3) sc.nd rfl (.inl rfl) (pe_ix ix_tup (pe_ix ix_tup (pe_ix ix_tup (pv 0) pe_int (fun _ _ => rfl)) (pe_ix ix_tup (pv 1) pe_int (fun _ _ => rfl)) (fun _ _ => rfl)) (pe_ix ix_tup (pv 2) pe_int (fun _ _ => rfl)) (fun _ _ => rfl)))
    (pss_cons (ps_for PassesOwn.never rfl (pi_range1 (by rfl) T.b_range (pa_cons (pe_callB call_lenD (by rfl) T.b_len PySem.boot_len (pa_cons (pv 3) pa_nil)) pa_nil)) (pg_name (i := 4) sc.nd rfl (.inl rfl))
    (pss_one (ps_if (pt_val (pe_cg G_l_holds hr (by rfl) (pa_cons (pe_ix ix_tup (pe_ix ix_tup (pv 3) (pv 4) (fun _ _ => rfl)) pe_int (fun _ _ => rfl)) (pa_cons (pe_ix ix_tup (pv 2) pe_int (fun _ _ => rfl)) (pa_cons (pe_ix ix_tup (pv 1) pe_int (fun _ _ => rfl)) pa_nil)))))
    (pss_one (ps_ret (pv 4)))
    pss_nil)))
    (pss_one (ps_ret pe_non)))), ?_⟩
  refine' i_start (by walk_at "set") ?_
  obtain ⟨row, cs, hrow, hcs, ecs, hlen, hcok⟩ := mok.row cin.st htg
  walk_at "rd"
  refine i_ixT hm ix2 fun w1 h1 => ?_
  walk_at "rd"
  refine i_ixTi hc ix0 ?_
  refine i_ixT h1 (atI_mapn hrow) fun w2 h2 => ?_
  walk_at "rd"
  refine i_ixTi he ix0 ?_
  refine i_ixT h2 (atI_mapn hcs) fun w3 h3 => ?_
  walk_at "rd"
  refine i_lenT h3 ?_
  walk_at "rd"
  refine go_forR (k := cs.length) (by rw [List.length_map]) (by omega) (fun i σ H' => Kp [] H H' ∧ (∀ (j : Nat) (c' : Case), j < i → cs[j]? = some c' → holds v c.2 c'.cond = false) ∧ ∃ y4, σ = [some am, some ac, some ae, some w3, y4]) ⟨Kp.refl, fun j c' hj => absurd hj (Nat.not_lt_zero _), none, rfl⟩ (fun i σ H' hi pv => ?_) (fun σ H' p => ?_)
  · obtain ⟨k1, hno, y4, rfl⟩ := pv
    have hc' : cs[i]? = some cs[i] := List.getElem?_eq_getElem hi
    generalize cs[i] = c' at hc'
    walk_at "rd"
    refine i_ixT (h3.up k1) (atI_mapn hc') fun w4 h4 => ?_
    walk_at "rd"
    refine i_ixT h4 ix0 fun w5 h5 => ?_
    walk_at "rd"
    refine i_ixTi (he.up k1) ix1 ?_
    walk_at "rd"
    refine i_ixT (hc.up k1) ix1 fun w6 h6 => ?_
    walk_at "rd"
    have cok := hcok c' (List.mem_of_getElem? hc')
    refine ⟨c'.cond, v, c.2, w5, w6, rfl, h5, h6, ?_, fun H3 k3 => ?_⟩
    · have e := cok.cond
      rw [← cin.len] at e
      exact e
    · walk_at "rd"
      refine ite2 (fun e => ?_) (fun e => ?_)
      · walk_at "rd"
        have e1 : caseFor v c.2 (m.cases c.1 t) = some i := by
          rw [ecs]
          exact caseFor_some hno hc' e
        have q1 := q H3 (k1.trans k3)
        rw [e1] at q1
        exact q1
      · walk_at "rd"
        refine ⟨k1.trans k3, fun j d hj hd => ?_, _, rfl⟩
        by_cases hji : j < i
        · exact hno j d hji hd
        · obtain rfl : j = i := by omega
          rw [hc'] at hd
          cases hd
          exact Bool.eq_false_iff.mpr e
  · obtain ⟨k1, hno, y4, rfl⟩ := p
    walk_at "rd"
    have e1 : caseFor v c.2 (m.cases c.1 t) = none := by
      rw [ecs]
      exact caseFor_none fun j d hd => hno j d (List.getElem?_eq_some_iff.mp hd).1 hd
    have q1 := q H' k1
    rw [e1] at q1
    exact q1
theorem ok_l_read (F : FT K mg "_law_read" s_l_read ["_law_machine_here", "_law_content", "_law_entry"]) (T : Tx mg) (G_l_case : FG P w K mg base 5 "_law_case" ["_law_machine_here", "_law_content", "_law_entry"] (spCase K)) (G_value : FG P w K mg base 1 "_law_at" ["_law_source", "_law_value", "_law_held"] (spValue K)) : FG P w K mg base 6 "_law_read" ["_law_machine_here", "_law_content", "_law_entry"] (spRead K) := by
  have G_l_at := G_value.mono (show 1 ≤ 5 by omega)
  refine F.ok sc_l_read (fun vs H Q E h => ?_) (fun f cdv A outer s H vs Q E hr h => ?_)
  · obtain ⟨_, _, _, _, ⟨⟨_, _, _, rfl, _⟩, _⟩, _⟩ := h
    rfl
  obtain ⟨m, c, t, v, ⟨⟨am, ac, ae, rfl, hm, hc, he⟩, mok, cin, htg⟩, q⟩ := h
  have sc := sc_l_read
  refine ⟨_, (pss_cons (ps_set (i := 3) sc.nd rfl (.inl rfl) (pe_cg G_l_case hr (by rfl) (pa_cons (pv 0) (pa_cons (pv 1) (pa_cons (pv 2) pa_nil)))))
    (pss_cons (ps_if (pt_cmp (pc_isN (pv 3)) rfl)
    (pss_one (ps_ret (pe_tup (pa_cons (pv 1) (pa_cons (pe_tup pa_nil) pa_nil)))))
    pss_nil)
    (pss_cons (ps_set (i := 4) sc.nd rfl (.inl rfl) (pe_ix ix_tup (pe_ix ix_tup (pe_ix ix_tup (pe_ix ix_tup (pv 0) pe_int (fun _ _ => rfl)) (pe_ix ix_tup (pv 1) pe_int (fun _ _ => rfl)) (fun _ _ => rfl)) (pe_ix ix_tup (pv 2) pe_int (fun _ _ => rfl)) (fun _ _ => rfl)) (pv 3) (fun _ _ => rfl)))
    (pss_cons (ps_set (i := 5) sc.nd rfl (.inl rfl) (pe_callTy call_tupD (by rfl) T.b_tuple (by decide +kernel) (pa_cons (pe_lc (te := (tCall _ [] E0 (tCons (tVar 6) (tCons (tOp (rIxT K) (tVar 2) (tC (.int 1))) (tCons (tOp (rIxT K) (tVar 1) (tC (.int 1))) tNil))))) (own := [("_law_source", 6)]) rfl sc.nd (pi_tup (pe_ix ix_tup (pv 4) pe_int (fun _ _ => rfl))) (blkOk_by (own := [("_law_source", 6)]) (N := ["_law_machine_here", "_law_content", "_law_entry", "_law_number", "_law_case_here", "_law_held", "_law_source", "_law_said"]) (sc := defScope s_l_read) (by decide +kernel)) (fun _ _ _ _ _ => (pg_name (i := 6) sc.nd rfl (.inl rfl))) (fun _ _ _ _ _ => pts_nil) (fun _ _ _ _ _ => (pe_cg G_l_at hr (by rfl) (pa_cons (pv 6) (pa_cons (pe_ix ix_tup (pv 2) pe_int (fun _ _ => rfl)) (pa_cons (pe_ix ix_tup (pv 1) pe_int (fun _ _ => rfl)) pa_nil)))))) pa_nil)))
    (pss_one (ps_ret (pe_tup (pa_cons (pe_tup (pa_cons (pe_ix ix_tup (pv 4) pe_int (fun _ _ => rfl)) (pa_cons (pv 5) pa_nil))) (pa_cons (pe_callTy call_tupD (by rfl) T.b_tuple (by decide +kernel) (pa_cons (pe_lc (te := (tTup (tCons (tOp (rIxT K) (tVar 7) (tC (.int 0))) (tCons (tCall _ [] E0 (tCons (tOp (rIxT K) (tVar 7) (tC (.int 1))) (tCons (tOp (rIxT K) (tVar 2) (tC (.int 1))) (tCons (tOp (rIxT K) (tVar 1) (tC (.int 1))) tNil)))) tNil)))) (own := [("_law_said", 7)]) rfl sc.nd (pi_tup (pe_ix ix_tup (pv 4) pe_int (fun _ _ => rfl))) (blkOk_by (own := [("_law_said", 7)]) (N := ["_law_machine_here", "_law_content", "_law_entry", "_law_number", "_law_case_here", "_law_held", "_law_source", "_law_said"]) (sc := defScope s_l_read) (by decide +kernel)) (fun _ _ _ _ _ => (pg_name (i := 7) sc.nd rfl (.inl rfl))) (fun _ _ _ _ _ => pts_nil) (fun _ _ _ _ _ => (pe_tup (pa_cons (pe_ix ix_tup (pv 7) pe_int (fun _ _ => rfl)) (pa_cons (pe_cg G_l_at hr (by rfl) (pa_cons (pe_ix ix_tup (pv 7) pe_int (fun _ _ => rfl)) (pa_cons (pe_ix ix_tup (pv 2) pe_int (fun _ _ => rfl)) (pa_cons (pe_ix ix_tup (pv 1) pe_int (fun _ _ => rfl)) pa_nil)))) pa_nil))))) pa_nil)) pa_nil))))))))), ?_⟩
  refine' i_start (by walk_at "set") ?_
  obtain ⟨row, cs, hrow, hcs, ecs, hlen, hcok⟩ := mok.row cin.st htg
  walk_at "rd"
  refine ⟨m, c, t, v, ⟨⟨am, ac, ae, rfl, hm, hc, he⟩, mok, cin, htg⟩, fun H1 k1 => ?_⟩
  have hm := hm.up k1
  have hc := hc.up k1
  have he := he.up k1
  rw [ecs]
  have rd : m.read c t v = readC cs c.1 v c.2 := by
    unfold Mach.read
    rw [ecs]
  rw [rd] at q
  unfold readC at q
  cases ek : caseFor v c.2 cs with
  | none =>
    rw [ek] at q
    repeat (first | walk_at "rd" | walk_at "br")
    refine g_tup (K := K) (ds := []) .nil (by decide) fun z1 H2 k2 hz1 => ?_
    walk_at "rd"
    refine g_tup (K := K) (.cons (hc.up k2) (.one hz1)) (by show 2 ≤ 100000; decide) fun z2 H3 k3 hz2 => ?_
    exact q z2 H3 ((k1.trans k2).trans k3) hz2
  | some k =>
    obtain ⟨d, hd, _⟩ := caseFor_lt ek
    have dok := hcok d (List.mem_of_getElem? hd)
    rw [ek] at q
    simp only [hd] at q
    repeat (first | walk_at "rd" | walk_at "br")
    refine i_ixT hm ix2 fun w1 h1 => ?_
    walk_at "rd"
    refine i_ixTi hc ix0 ?_
    refine i_ixT h1 (atI_mapn hrow) fun w2 h2 => ?_
    walk_at "rd"
    refine i_ixTi he ix0 ?_
    refine i_ixT h2 (atI_mapn hcs) fun w3 h3 => ?_
    walk_at "rd"
    refine i_ixT h3 (atI_mapn hd) fun w4 h4 => ?_
    walk_at "rd"
    have hl : c.2.length = m.regs := cin.len
    refine i_ixT h4 ix1 fun w5 e2 => ?_
    refine go_lcT (M := []) e2 (by rw [List.length_map, dok.len]; have := mok.regs; omega) (fun i acc H' => acc = ((d.moves.take i).map fun s => valAt s v c.2).map oV) (fun i acc H1 H2 D _ _ p => p) rfl (fun i dd x acc H4 D hi hx k4 hD hacc hlt p R1 R0 r1 r0 => ?_) (fun l H4 acc k4 nl hl' hle p => ?_)
    · rw [List.getElem?_map] at hi
      obtain ⟨p', hp', rfl⟩ := Option.map_eq_some_iff.mp hi
      obtain rfl := dt_int hx
      refine' t_yes (by decide) (by walk_at "set") ?_
      walk_at "rd"
      refine i_ixTi (he.up k4) ix1 ?_
      walk_at "rd"
      refine i_ixT (hc.up k4) ix1 fun w6 h6 => ?_
      walk_at "rd"
      refine ⟨p', v, c.2, w6, rfl, h6, by rw [hl]; exact dok.moves p' (List.mem_of_getElem? hp'), ?_⟩
      refine r1 _ _ hacc k4 ?_
      rw [← take_map_next hp', List.map_append, p]
      rfl
    · walk_at "rd"
      rw [List.length_map, List.take_length] at p
      refine i_tupL (ds := (d.moves.map fun s => valAt s v c.2).map oI) hl' (by rw [p]; exact dtAll_oV _) fun p5 H5 k5 hb => ?_
      have k15 := k4.trans k5
      have hb : Dt K H5 p5 (heldD (d.moves.map fun s => valAt s v c.2)) := hb
      walk_at "rd"
      refine i_ixTi (h4.up k15) ix3 ?_
      walk_at "rd"
      refine g_tup (K := K) (.cons (.int _) (.one hb)) (by show 2 ≤ 100000; decide) fun y1 H6 k6 hy1 => ?_
      walk_at "rd"
      refine i_ixT ((h4.up k15).up k6) ix2 fun w7 e3 => ?_
      refine go_lcT (M := []) e3 (by rw [List.length_map]; have := dok.few; omega) (fun i acc H' => DtAll K H' acc ((d.says.take i).map fun (p : Int × Int) => .tuple [.int p.1, oI (valAt p.2 v c.2)])) (fun i acc H1 H2 D _ k p => p.up k) .nil (fun i dd x acc H2 D hi hx k2 hD hacc hlt p R1 R0 r1 r0 => ?_) (fun l H2 acc k2 nl hl' hle p => ?_)
      · rw [List.getElem?_map] at hi
        obtain ⟨p', hp', rfl⟩ := Option.map_eq_some_iff.mp hi
        refine' t_yes (by decide) (by walk_at "set") ?_
        walk_at "rd"
        refine i_ixTi hx ix0 ?_
        walk_at "rd"
        refine i_ixTi hx ix1 ?_
        walk_at "rd"
        refine i_ixTi (((he.up k15).up k6).up k2) ix1 ?_
        walk_at "rd"
        refine i_ixT (((hc.up k15).up k6).up k2) ix1 fun w6 h6 => ?_
        walk_at "rd"
        refine ⟨p'.2, v, c.2, w6, rfl, h6, by rw [hl]; exact dok.says p' (List.mem_of_getElem? hp'), ?_⟩
        walk_at "rd"
        refine g_tup (K := K) (.cons (.int _) (.one (dt_oV _))) (by show 2 ≤ 100000; decide) fun y H3 k3 hy => ?_
        refine r1 y H3 (k3.get0 hacc) (k2.trans k3) ?_
        rw [← take_map_next hp']
        exact (p.up k3).append (.one hy)
      · walk_at "rd"
        refine i_tupL hl' p fun p' H3 k3 ha => ?_
        have ha : Dt K H3 p' (ansD (d.says.map fun p => (p.1, valAt p.2 v c.2))) := by
          unfold ansD
          rw [List.map_map]
          rw [List.length_map, List.take_length] at ha
          exact ha
        walk_at "rd"
        refine g_tup (K := K) (.cons ((hy1.up k2).up k3) (.one ha)) (by show 2 ≤ 100000; decide) fun y2 H7 k7 hy2 => ?_
        exact q y2 H7 (((((k1.trans k15).trans k6).trans k2).trans k3).trans k7) hy2
theorem answers_snoc (m : Mach) : ∀ (l : List (Nat × Int)) (c : Content) (e : Nat × Int), m.answers c (l ++ [e]) = m.answers c l ++ [(m.read (l.foldl (fun c e => (m.read c e.1 e.2).1) c) e.1 e.2).2]
  | [], c, e => rfl
  | x :: l, c, e => by
    rw [List.cons_append, Mach.answers, Mach.answers, answers_snoc m l]
    rfl
theorem ok_l_answers (F : FT K mg "_law_answers" s_l_answers ["_law_machine_here", "_law_content", "_law_log_here"]) (T : Tx mg) (G_l_read : FG P w K mg base 6 "_law_read" ["_law_machine_here", "_law_content", "_law_entry"] (spRead K)) : FG P w K mg base 7 "_law_answers" ["_law_machine_here", "_law_content", "_law_log_here"] (spAnswers K) := by
  refine F.ok sc_l_answers (fun vs H Q E h => ?_) (fun f cdv A outer s H vs Q E hr h => ?_)
  · obtain ⟨_, _, _, _, _, _, rfl, _⟩ := h
    rfl
  obtain ⟨m, c, log, am, ac, al, rfl, hm, hc, hl, mok, cin, htag, hlen, q⟩ := h
  have sc := sc_l_answers
  refine ⟨_, (pss_cons (ps_set (i := 3) sc.nd rfl (.inl rfl) (pe_lst pa_nil))
    (pss_cons (ps_for PassesOwn.never rfl (pi_tup (pv 2)) (pg_name (i := 4) sc.nd rfl (.inl rfl))
    (pss_cons (ps_set (i := 5) sc.nd rfl (.inl rfl) (pe_cg G_l_read hr (by rfl) (pa_cons (pv 0) (pa_cons (pv 1) (pa_cons (pv 4) pa_nil)))))
    (pss_cons (ps_set (i := 1) sc.nd rfl (.inl rfl) (pe_ix ix_tup (pv 5) pe_int (fun _ _ => rfl)))
    (pss_one (ps_expr (pe_bm PySem.F.plainAttrs_list PySem.F.slot_list_append PySem.F.type_list_append mt_append (pv 3) (pa_cons (pe_ix ix_tup (pv 5) pe_int (fun _ _ => rfl)) pa_nil)))))))
    (pss_one (ps_ret (pe_callTy call_tupD (by rfl) T.b_tuple (by decide +kernel) (pa_cons (pv 3) pa_nil)))))), ?_⟩
  refine' i_start (by walk_at "set") ?_
  walk_at "rd"
  refine g_lst (Nat.zero_le _) fun l1 H1 k1 n1 e1 => ?_
  walk_at "rd"
  refine go_forT (M := [l1]) (hl.up k1) (fun i σ H' => Kp [l1] H1 H' ∧ ∃ c' bc acc y4 y5, σ = [some am, some bc, some al, some (.ref l1), y4, y5] ∧ m.In c' ∧ c' = (log.take i).foldl (fun c e => (m.read c e.1 e.2).1) c ∧ Dt K H' bc (contD c') ∧ H' l1 = some (.lst acc) ∧ DtAll K H' acc ((m.answers c (log.take i)).map ansD)) ⟨Kp.refl, c, ac, [], none, none, rfl, cin, rfl, hc.up k1, e1, .nil⟩ (fun i σ H' p => p.1) (fun i d u σ H' hi p hu => ?_) (fun σ H' p => ?_)
  · obtain ⟨k2, c', bc, acc, y4, y5, rfl, cin', ec, hbc, hacc, hda⟩ := p
    rw [List.getElem?_map] at hi
    obtain ⟨e, he, rfl⟩ := Option.map_eq_some_iff.mp hi
    have ht := htag e (List.mem_of_getElem? he)
    walk_at "rd"
    refine ⟨m, c', e.1, e.2, ⟨⟨am, bc, u, rfl, (hm.up k1).up k2, hbc, hu⟩, mok, cin', ht⟩, fun z H3 k3 hz => ?_⟩
    walk_at "rd"
    refine i_ixT hz ix0 fun z1 h1 => ?_
    walk_at "rd"
    refine ⟨ty_lst (SqL.of (k3.get0 hacc)), ?_⟩
    walk_at "rd"
    refine i_ixT hz ix1 fun z2 h2 => ?_
    walk_at "rd"
    have la : acc.length ≤ 100000 := by
      have e1 := hda.length
      have lens : ∀ (l : List (Nat × Int)) (c : Content), (m.answers c l).length = l.length := by
        intro l
        induction l with
        | nil => intro _; rfl
        | cons x l ih => intro c; rw [Mach.answers, List.length_cons, List.length_cons, ih]
      rw [e1, List.length_map, lens, List.length_take]
      omega
    refine i_append (k3.get0 hacc) la fun H4 k4 e4 => ?_
    refine ⟨(k2.trans k3.any).trans k4, (m.read c' e.1 e.2).1, z1, acc ++ [z2], _, _, rfl, mok.read_in cin' ht e.2, ?_, h1.up k4, e4, ?_⟩
    · rw [List.take_add_one, he, List.foldl_append, ← ec]
      rfl
    · rw [List.take_add_one, he]
      show DtAll K H4 (acc ++ [z2]) ((m.answers c (log.take i ++ [e])).map ansD)
      rw [answers_snoc, List.map_append, ← ec]
      exact ((hda.up k3).up k4).append (.one (h2.up k4))
  · obtain ⟨k2, c', bc, acc, y4, y5, rfl, cin', ec, hbc, hacc, hda⟩ := p
    rw [List.length_map, List.take_length] at hda
    walk_at "rd"
    refine i_tupL hacc hda fun u H3 k3 hu => ?_
    have kk : Kp [] H H' := k1.fresh k2 fun z hz => .inr (by rw [List.mem_singleton.mp hz]; exact n1)
    exact q u H3 (kk.trans k3) hu
end
/-! ### the list of draws -/
def Dr (H : Hp) (d : Addr) : Prop := ∃ ns : List Int, H d = some (.lst (ns.map V.int))
theorem Dr.some {H : Hp} {d : Addr} (h : Dr H d) : H d ≠ none := by
  obtain ⟨ns, e⟩ := h
  rw [e]
  exact fun z => by cases z
theorem Dr.ne {H : Hp} {d p : Addr} (h : Dr H d) (n : H p = none) : p ∉ [d] := fun z => by
  rw [List.mem_singleton.mp z] at n
  exact h.some n
theorem Dr.up {M : List Addr} {H H' : Hp} {d : Addr} (h : Dr H d) (k : Kp M H H') (n : d ∉ M) : Dr H' d :=
  let ⟨ns, e⟩ := h
  ⟨ns, k.get n e⟩
theorem Dr.up0 {H H' : Hp} {d : Addr} (h : Dr H d) (k : Kp [] H H') : Dr H' d := h.up k fun z => nomatch z
theorem Dr.upD {H0 H H' : Hp} {d D : Addr} (h : Dr H d) (h0 : Dr H0 d) (n : H0 D = none) (k : Kp [D] H H') : Dr H' d := h.up k fun z => by
  rw [← List.mem_singleton.mp z] at n
  exact h0.some n
section
variable {K : PySem.W.Frag} {H : Hp} {Q : VK}
theorem atI_ex {α : Type} {xs : List α} {i : Int} (h0 : 0 ≤ i) (h1 : i < xs.length) : ∃ v, v ∈ xs ∧ atI xs i = some v := by
  have hj : i.toNat < xs.length := by omega
  exact ⟨xs[i.toNat], List.getElem_mem hj, atI_toNat h0 (List.getElem?_eq_getElem hj)⟩
theorem i_pick {l : Addr} {xs : List V} {i : Int} (h : SqL K H l xs) (h0 : 0 ≤ i) (h1 : i < xs.length) (q : ∀ v, v ∈ xs → Q v H) : rIxL K (.ref l) (.int i) H Q := by
  obtain ⟨v, hv, e⟩ := atI_ex h0 h1
  exact i_ixL h e (q v hv)
theorem i_pop {d : Addr} {ns : List Int} (h : H d = some (.lst (ns.map V.int))) (hn : ns ≠ []) (q : ∀ i H', Kp [d] H H' → Dr H' d → Q (.int i) H') : rPop (.ref d) [] H Q := by
  have hl : ns.length - 1 < ns.length := by
    cases ns with
    | nil => exact absurd rfl hn
    | cons a b => show b.length + 1 - 1 < b.length + 1; omega
  refine ⟨d, _, .int ns[ns.length - 1], rfl, rfl, h, ?_, q _ _ (Kp.wr (by rw [h]; trivial)) ⟨ns.dropLast, by rw [upd_same, List.map_dropLast]⟩⟩
  rw [List.length_map, List.getElem?_map, List.getElem?_eq_getElem hl]
  rfl
theorem i_setL2 {l : Addr} {xs : List V} {i : Int} {j : Nat} {v : V} {q : Hp → Prop} (h : H l = some (.lst xs)) (hj : ixN xs.length i = some j) (k : ∀ H', Kp [l] H H' → H' l = some (.lst (xs.set j v)) → q H') : rSetL (.ref l) (.int i) v H q :=
  ⟨l, xs, i, j, rfl, rfl, h, hj, k _ (Kp.wr (by rw [h]; trivial)) upd_same⟩
theorem i_rev {l : Addr} {xs : List V} (h : H l = some (.lst xs)) (k : ∀ H', Kp [l] H H' → H' l = some (.lst xs.reverse) → Q .non H') : rReverse (.ref l) [] H Q :=
  ⟨l, xs, rfl, rfl, h, k _ (Kp.wr (by rw [h]; trivial)) upd_same⟩
end
def intsN (n : Nat) : List V := (List.range n).map fun i => .int (i : Nat)
section
variable {K : PySem.W.Frag} {H : Hp} {Q : VK} {te : TE} {σ : L2.St}
theorem g_lrg {n : Nat} (hn : n ≤ 1000) (q : ∀ p H', Kp [] H H' → H p = none → H' p = some (.lst (intsN n)) → Q (.ref p) H') : ListRg Q (.int (n : Nat)) H := by
  refine ⟨_, rfl, RgOk.of_le (by omega) (by omega) (by omega) (by omega), fun p hp => q _ _ (Kp.new hp) hp ?_⟩
  rw [upd_same]
  have e : rgV 0 ((n : Nat) : Int) = intsN n := by
    unfold rgV intsN
    simp
  rw [e]
end
abbrev s_l_draws : Stmt := topS 17
theorem sc_l_draws : FnScope ["_law_script", "_law_many_here", "_law_cells", "_law_rest", "_law_draws_here", "_law_k", "_law_at_here", "_law_once", "_law_cell_here"] ["_law_script", "_law_many_here"] (defScope s_l_draws) := ⟨rfl, rfl, rfl, by decide +kernel, rfl, by decide +kernel, by decide +kernel⟩
abbrev s_l_take : Stmt := topS 18
theorem sc_l_take : FnScope ["_law_draws_here", "_law_many_here"] ["_law_draws_here", "_law_many_here"] (defScope s_l_take) := ⟨rfl, rfl, rfl, by decide +kernel, rfl, by decide +kernel, by decide +kernel⟩
abbrev s_l_cell : Stmt := topS 19
theorem sc_l_cell : FnScope ["_law_script", "_law_draws_here"] ["_law_script", "_law_draws_here"] (defScope s_l_cell) := ⟨rfl, rfl, rfl, by decide +kernel, rfl, by decide +kernel, by decide +kernel⟩
def spDraws (K : PySem.W.Frag) : Sp := fun vs H Q _ => ∃ (l : Addr) (ns : List Int), vs = [.ref l, .int 560] ∧ SqL K H l (ns.map V.int) ∧ ns.length ≤ 63 ∧ ∀ d H', Kp [] H H' → H d = none → Dr H' d → Q (.ref d) H'
def spTake : Sp := fun vs H Q _ => ∃ (d : Addr) (n : Int), vs = [.ref d, .int n] ∧ Dr H d ∧ 0 < n ∧ ∀ i H', 0 ≤ i → i < n → Kp [d] H H' → Dr H' d → Q (.int i) H'
def spCell (K : PySem.W.Frag) : Sp := fun vs H Q _ => ∃ (l d : Addr) (ns : List Int), vs = [.ref l, .ref d] ∧ (∀ H', Kp [d] H H' → SqL K H' l (ns.map V.int)) ∧ Dr H d ∧ ∀ i H', Kp [d] H H' → Dr H' d → Q (.int i) H'
section
variable {P : Program} {w : World} {K : PySem.W.Frag} {mg : Str → Option Value} {base : Heap}
theorem ok_l_take (F : FT K mg "_law_take" s_l_take ["_law_draws_here", "_law_many_here"]) (T : Tx mg) : FG P w K mg base 1 "_law_take" ["_law_draws_here", "_law_many_here"] spTake := by
  refine F.ok sc_l_take (fun vs H Q E h => ?_) (fun f cdv A outer s H vs Q E hr h => ?_)
  · obtain ⟨_, _, rfl, _⟩ := h
    rfl
  obtain ⟨d, n, rfl, ⟨ns, hd⟩, hn, q⟩ := h
  have sc := sc_l_take
  refine ⟨_, (pss_cons (ps_if (pt_cmpR op_eq (pe_callB call_lenD (by rfl) T.b_len PySem.boot_len (pa_cons (pv 0) pa_nil)) pe_int (nomark _))
    (pss_one (ps_ret pe_int))
    pss_nil)
    (pss_one (ps_ret (pe_op op_mod (pe_callTy call_intD (by rfl) T.b_int (by decide +kernel) (pa_cons (pe_bm0 PySem.F.plainAttrs_list PySem.F.slot_list_pop PySem.F.type_list_pop mt_pop (pv 0)) pa_nil)) (pv 1))))), ?_⟩
  refine' i_start (by walk_at "set") ?_
  walk_at "t"
  refine i_lenL (SqL.of hd) ?_
  walk_at "t"
  refine ite2 (fun e => ?_) (fun e => ?_)
  · walk_at "t"
    exact q 0 H (by omega) hn Kp.refl ⟨ns, hd⟩
  · have ne : ns ≠ [] := fun z => by
      subst z
      exact e (decide_eq_true rfl)
    walk_at "t"
    refine ⟨ty_lst (SqL.of hd), ?_⟩
    refine i_pop hd ne fun i H1 k1 hd1 => ?_
    walk_at "t"
    refine i_int ?_
    walk_at "t"
    refine i_I hn ?_
    exact q (i % n) H1 (Int.emod_nonneg i (by omega)) (Int.emod_lt_of_pos i hn) k1 hd1
theorem ok_l_cell (F : FT K mg "_law_cell" s_l_cell ["_law_script", "_law_draws_here"]) (T : Tx mg) (G_l_take : FG P w K mg base 1 "_law_take" ["_law_draws_here", "_law_many_here"] spTake) : FG P w K mg base 2 "_law_cell" ["_law_script", "_law_draws_here"] (spCell K) := by
  refine F.ok sc_l_cell (fun vs H Q E h => ?_) (fun f cdv A outer s H vs Q E hr h => ?_)
  · obtain ⟨_, _, _, rfl, _⟩ := h
    rfl
  obtain ⟨l, d, ns, rfl, hl, hd, q⟩ := h
  have sc := sc_l_cell
  refine ⟨_, (pss_cons (ps_if (pt_cmpR op_eq (pe_callB call_lenD (by rfl) T.b_len PySem.boot_len (pa_cons (pv 0) pa_nil)) pe_int (nomark _))
    (pss_one (ps_ret pe_int))
    pss_nil)
    (pss_one (ps_ret (pe_callTy call_intD (by rfl) T.b_int (by decide +kernel) (pa_cons (pe_ix ix_list (pv 0) (pe_cg G_l_take hr (by rfl) (pa_cons (pv 1) (pa_cons (pe_callB call_lenD (by rfl) T.b_len PySem.boot_len (pa_cons (pv 0) pa_nil)) pa_nil))) (fun _ _ => rfl)) pa_nil))))), ?_⟩
  refine' i_start (by walk_at "set") ?_
  walk_at "t"
  refine i_lenL (hl H Kp.refl) ?_
  walk_at "t"
  refine ite2 (fun e => ?_) (fun e => ?_)
  · walk_at "t"
    exact q 0 H Kp.refl hd
  · have ne : 0 < ns.length := by
      have z : ¬ (((ns.map V.int).length : Nat) : Int) = 0 := fun z => e (decide_eq_true z)
      rw [List.length_map] at z
      omega
    walk_at "t"
    refine i_lenL (hl H Kp.refl) ?_
    walk_at "t"
    refine ⟨d, _, rfl, hd, by rw [List.length_map]; omega, fun i H1 h0 h1 k1 hd1 => ?_⟩
    refine i_pick (hl H1 k1) h0 h1 fun v hv => ?_
    obtain ⟨x, _, rfl⟩ := List.mem_map.mp hv
    walk_at "t"
    refine i_int ?_
    exact q x H1 k1 hd1
theorem ok_l_draws (F : FT K mg "_law_draws" s_l_draws ["_law_script", "_law_many_here"]) (T : Tx mg) : FG P w K mg base 1 "_law_draws" ["_law_script", "_law_many_here"] (spDraws K) := by
  refine F.ok sc_l_draws (fun vs H Q E h => ?_) (fun f cdv A outer s H vs Q E hr h => ?_)
  · obtain ⟨_, _, rfl, _⟩ := h
    rfl
  obtain ⟨l0, ns, rfl, hl0, hlen, q⟩ := h
  have sc := sc_l_draws
  refine ⟨_, (pss_cons (ps_setLc (i := 2) (te := (tCB rIntD (tCons (tVar 8) tNil))) (own := [("_law_cell_here", 8)]) rfl sc.nd rfl rfl (sw_true rfl rfl rfl (by decide +kernel)) (pi_list (pv 0)) (blkOk_by (own := [("_law_cell_here", 8)]) (N := ["_law_script", "_law_many_here", "_law_cells", "_law_rest", "_law_draws_here", "_law_k", "_law_at_here", "_law_once", "_law_cell_here"]) (sc := defScope s_l_draws) (by decide +kernel)) (fun _ _ _ _ _ => (pg_name (i := 8) sc.nd rfl (.inl rfl))) (fun _ _ _ _ _ => pts_nil) (fun _ _ _ _ _ => (pe_callTy call_intD (by rfl) T.b_int (by decide +kernel) (pa_cons (pv 8) pa_nil))))
    (pss_cons (ps_if (pt_cmpR op_eq (pe_callB call_lenD (by rfl) T.b_len PySem.boot_len (pa_cons (pv 2) pa_nil)) pe_int (nomark _))
    (pss_one (ps_expr (pe_bm PySem.F.plainAttrs_list PySem.F.slot_list_append PySem.F.type_list_append mt_append (pv 2) (pa_cons pe_int pa_nil))))
    pss_nil)
    (pss_cons (ps_set (i := 3) sc.nd rfl (.inl rfl) (pe_callTy call_listD (by rfl) T.b_list (by decide +kernel) (pa_cons (pv 2) pa_nil)))
    (pss_cons (ps_set (i := 4) sc.nd rfl (.inl rfl) (pe_lst pa_nil))
    (pss_cons (ps_for PassesOwn.never rfl (pi_range1 (by rfl) T.b_range (pa_cons (pv 1) pa_nil)) (pg_name (i := 5) sc.nd rfl (.inl rfl))
    (pss_cons (ps_set (i := 6) sc.nd rfl (.inl rfl) (pe_op op_mod (pv 5) (pe_callB call_lenD (by rfl) T.b_len PySem.boot_len (pa_cons (pv 2) pa_nil))))
    (pss_one (ps_if (pt_cmpR op_ge (pe_ix ix_list (pv 2) (pv 6) (fun _ _ => rfl)) (pe_op op_pow pe_int pe_int) (nomark _))
    (pss_cons (ps_expr (pe_bm PySem.F.plainAttrs_list PySem.F.slot_list_append PySem.F.type_list_append mt_append (pv 4) (pa_cons (pe_op op_mod (pe_callTy call_intD (by rfl) T.b_int (by decide +kernel) (pa_cons (pe_ix ix_list (pv 3) (pv 6) (fun _ _ => rfl)) pa_nil)) pe_int) pa_nil)))
    (pss_one (ps_asg (pe_op op_fdiv (pe_ix ix_list (pv 3) (pv 6) (fun _ _ => rfl)) pe_int) (pg_sub (pv 3) (pv 6) set_list))))
    (pss_cons (ps_set (i := 7) sc.nd rfl (.inl rfl) (pe_op op_mod (pe_callTy call_intD (by rfl) T.b_int (by decide +kernel) (pa_cons (pe_op op_add (pe_op op_add (pe_op op_mul (pe_ix ix_list (pv 2) (pv 6) (fun _ _ => rfl)) pe_int) (pe_op op_mul (pv 5) pe_int)) pe_int) pa_nil)) pe_int))
    (pss_one (ps_expr (pe_bm PySem.F.plainAttrs_list PySem.F.slot_list_append PySem.F.type_list_append mt_append (pv 4) (pa_cons (pe_op op_mod (pe_callTy call_intD (by rfl) T.b_int (by decide +kernel) (pa_cons (pe_op op_add (pe_op op_add (pe_op op_mul (pv 7) (pv 7)) (pe_op op_mul pe_int (pv 7))) (pv 5)) pa_nil)) pe_int) pa_nil)))))))))
    (pss_cons (ps_expr (pe_bm0 PySem.F.plainAttrs_list PySem.F.slot_list_reverse PySem.F.type_list_reverse mt_reverse (pv 4)))
    (pss_one (ps_ret (pv 4))))))))), ?_⟩
  refine' i_start (by walk_at "set") ?_
  walk_at "t"
  refine go_lcL (M := []) (xs := ns.map V.int) (fun H' k => k.sql0 hl0) (by rw [List.length_map]; omega) (fun i acc _ => acc = (ns.take i).map V.int) (fun i acc H1 H2 D _ _ p => p) rfl (fun i u acc H4 D hi k4 hD hacc hlt p R1 R0 r1 r0 => ?_) (fun lc H1 acc k1 n1 e1 hle pp => ?_)
  · rw [List.getElem?_map] at hi
    obtain ⟨x, hx, rfl⟩ := Option.map_eq_some_iff.mp hi
    refine' t_yes (by decide) (by walk_at "set") ?_
    walk_at "t"
    refine i_int ?_
    refine r1 _ _ hacc k4 ?_
    rw [p, List.take_add_one, hx, List.map_append]
    rfl
  rw [List.length_map, List.take_length] at pp
  subst pp
  walk_at "sq"
  refine i_seqJ (fun σ' H' => ∃ cs : List Int, σ' = [some (.ref l0), some (.int 560), some (.ref lc), none, none, none, none, none, none] ∧ Kp [] H H' ∧ H' lc = some (.lst (cs.map V.int)) ∧ 0 < cs.length ∧ cs.length ≤ 64) (fun σ H2 hp => ?_) (fun nx hnx => ?_)
  · obtain ⟨cs, rfl, k2, e2, hc0, hc1⟩ := hp
    walk_at "t"
    refine i_listL (SqL.of e2) fun lr H3 k3 n3 e3 => ?_
    walk_at "t"
    refine g_lst (Nat.zero_le _) fun d H4 k4 n4 e4 => ?_
    walk_at "t"
    have k04 : Kp [] H H4 := (k2.trans k3).trans k4
    have nr : H lr = none := k2.free n3
    have nd : H d = none := (k2.trans k3).free n4
    have nlr : lc ≠ lr := fun z => by rw [← z, e2] at n3; cases n3
    have nlc : lc ≠ d := fun z => by rw [← z, k3.get0 e2] at n4; cases n4
    have nrd : lr ≠ d := fun z => by rw [← z, e3] at n4; cases n4
    refine go_forR (k := 560) rfl (by omega) (fun i σ H' => ∃ (y5 y6 y7 : Option V) (rs ds : List Int), σ = [some (.ref l0), some (.int 560), some (.ref lc), some (.ref lr), some (.ref d), y5, y6, y7, none] ∧ Kp [lr, d] H4 H' ∧ H' lr = some (.lst (rs.map V.int)) ∧ rs.length = cs.length ∧ H' d = some (.lst (ds.map V.int)) ∧ ds.length = i)
      ⟨none, none, none, cs, [], rfl, Kp.refl, k4.get0 e3, rfl, e4, rfl⟩ (fun i σ H5 hi pv => ?_) (fun σ H5 pv => ?_)
    · obtain ⟨y5, y6, y7, rs, ds, rfl, k5, e5, hrl, e5d, hdl⟩ := pv
      have e5c : H5 lc = some (.lst (cs.map V.int)) := k5.get (by simp [nlr, nlc]) ((k3.trans k4).get0 e2)
      walk_at "t"
      refine i_lenL (SqL.of e5c) ?_
      rw [List.length_map]
      refine i_I (by show (0 : Int) < (cs.length : Nat); omega) ?_
      walk_at "t"
      have m0 : 0 ≤ ((i : Nat) : Int) % ((cs.length : Nat) : Int) := Int.emod_nonneg _ (by omega)
      have m1 : ((i : Nat) : Int) % ((cs.length : Nat) : Int) < (cs.length : Nat) := Int.emod_lt_of_pos _ (by omega)
      generalize ((i : Nat) : Int) % ((cs.length : Nat) : Int) = at_ at m0 m1
      refine i_pick (SqL.of e5c) m0 (by rw [List.length_map]; exact m1) fun v hv => ?_
      obtain ⟨x, _, rfl⟩ := List.mem_map.mp hv
      walk_at "t"
      refine i_I ⟨by decide, by decide, by decide⟩ ?_
      walk_at "t"
      refine ite2 (fun ec => ?_) (fun ec => ?_)
      · walk_at "t"
        refine ⟨ty_lst (SqL.of e5d), ?_⟩
        walk_at "t"
        refine i_pick (SqL.of e5) m0 (by rw [List.length_map, hrl]; exact m1) fun v hv => ?_
        obtain ⟨y, _, rfl⟩ := List.mem_map.mp hv
        walk_at "t"
        refine i_int ?_
        walk_at "t"
        refine i_I (by show (0 : Int) < 1000; decide) ?_
        walk_at "t"
        refine i_append e5d (by rw [List.length_map]; omega) fun H6 k6 e6 => ?_
        have e6r : H6 lr = some (.lst (rs.map V.int)) := k6.get (by simp [nrd]) e5
        walk_at "t"
        refine i_pick (SqL.of e6r) m0 (by rw [List.length_map, hrl]; exact m1) fun v hv => ?_
        obtain ⟨y2, _, rfl⟩ := List.mem_map.mp hv
        walk_at "t"
        refine i_I ⟨by decide, by decide⟩ ?_
        walk_at "t"
        refine i_setL2 e6r (j := at_.toNat) (by unfold ixN; rw [List.length_map, hrl, if_pos m0, if_pos m1]) fun H7 k7 e7 => ?_
        refine ⟨_, _, _, rs.set at_.toNat (y2 / 1000), ds ++ [y % 1000], rfl, (k5.trans (k6.mono (by simp))).trans (k7.mono (by simp)), by rw [e7, List.map_set], by rw [List.length_set]; exact hrl, ?_, by rw [List.length_append, List.length_singleton, hdl]⟩
        rw [k7.get (by simp [Ne.symm nrd]) e6, List.map_append]
        rfl
      · walk_at "t"
        refine i_pick (SqL.of e5c) m0 (by rw [List.length_map]; exact m1) fun v hv => ?_
        obtain ⟨y, _, rfl⟩ := List.mem_map.mp hv
        walk_at "t"
        refine i_I (.inr ⟨by decide, by decide⟩) ?_
        walk_at "t"
        refine i_I (.inr ⟨by decide, by decide⟩) ?_
        walk_at "t"
        refine i_int ?_
        walk_at "t"
        refine i_I (by show (0 : Int) < 2147483647; decide) ?_
        walk_at "t"
        refine ⟨ty_lst (SqL.of e5d), ?_⟩
        walk_at "t"
        have o0 := Int.emod_nonneg (y * 48271 + ((i : Nat) : Int) * 69621 + 11) (show (2147483647 : Int) ≠ 0 by decide)
        have o1 := Int.emod_lt_of_pos (y * 48271 + ((i : Nat) : Int) * 69621 + 11) (show (0 : Int) < 2147483647 by decide)
        generalize (y * 48271 + ((i : Nat) : Int) * 69621 + 11) % 2147483647 = z at o0 o1
        refine i_I (.inl ⟨by omega, by omega⟩) ?_
        walk_at "t"
        refine i_I (.inl ⟨by decide, by decide⟩) ?_
        walk_at "t"
        refine i_int ?_
        walk_at "t"
        refine i_I (by show (0 : Int) < 1000003; decide) ?_
        walk_at "t"
        refine i_append e5d (by rw [List.length_map]; omega) fun H6 k6 e6 => ?_
        refine ⟨_, _, _, rs, ds ++ [(z * z + 3 * z + ((i : Nat) : Int)) % 1000003], rfl, k5.trans (k6.mono (by simp)), k6.get (by simp [nrd]) e5, hrl, ?_, by rw [List.length_append, List.length_singleton, hdl]⟩
        rw [e6, List.map_append]
        rfl
    · obtain ⟨y5, y6, y7, rs, ds, rfl, k5, e5, hrl, e5d, hdl⟩ := pv
      walk_at "t"
      refine ⟨ty_lst (SqL.of e5d), ?_⟩
      refine i_rev e5d fun H6 k6 e6 => ?_
      walk_at "t"
      refine q d H6 (k04.fresh (k5.trans (k6.mono (N := [lr, d]) (by simp))) fun x hx => .inr ?_) nd ⟨ds.reverse, by rw [e6, List.map_reverse]⟩
      rcases List.mem_cons.mp hx with e | e
      · rw [e]; exact nr
      · rw [List.mem_singleton.mp e]; exact nd
  · walk_at "t"
    refine i_lenL (SqL.of e1) ?_
    walk_at "t"
    refine ite2 (fun e => ?_) (fun e => ?_)
    · walk_at "t"
      refine ⟨ty_lst (SqL.of e1), ?_⟩
      walk_at "t"
      refine i_append e1 (by rw [List.length_map]; omega) fun H2 k2 e2 => ?_
      refine hnx _ _ ⟨ns ++ [0], rfl, k1.fresh k2 fun x hx => .inr (by rw [List.mem_singleton.mp hx]; exact n1), ?_, by rw [List.length_append]; show 0 < _ + 1; omega, by rw [List.length_append]; show _ + 1 ≤ 64; omega⟩
      rw [e2, List.map_append]
      rfl
    · walk_at "t"
      refine hnx _ _ ⟨ns, rfl, k1, e1, ?_, by omega⟩
      have z : ¬ (((ns.map V.int).length : Nat) : Int) = 0 := fun z => e (decide_eq_true z)
      rw [List.length_map] at z
      omega
end
abbrev s_l_condition : Stmt := topS 20
theorem sc_l_condition : FnScope ["_law_draws_here", "_law_registers", "_law_depth", "_law_kind", "_law_places", "_law_one", "_law_other", "_law_row", "_law_k"] ["_law_draws_here", "_law_registers", "_law_depth"] (defScope s_l_condition) := ⟨rfl, rfl, rfl, by decide +kernel, rfl, by decide +kernel, by decide +kernel⟩
abbrev s_l_drawn_case : Stmt := topS 21
theorem sc_l_drawn_case : FnScope ["_law_draws_here", "_law_registers", "_law_standings", "_law_condition_here", "_law_sources", "_law_moves", "_law_place_here", "_law_says", "_law_k"] ["_law_draws_here", "_law_registers", "_law_standings", "_law_condition_here"] (defScope s_l_drawn_case) := ⟨rfl, rfl, rfl, by decide +kernel, rfl, by decide +kernel, by decide +kernel⟩
def spCond (K : PySem.W.Frag) (n : Nat) : Sp := fun vs H Q _ => ∃ (d : Addr) (r : Nat), vs = [.ref d, .int r, .int n] ∧ 1 ≤ n ∧ r ≤ 2 ∧ Dr H d ∧ ∀ c u H', Cond.ok r n c → Dt K H' u (condD c) → Kp [d] H H' → Dr H' d → Q u H'
theorem places_mem {r : Nat} {v : V} (h : v ∈ [V.int (-1)] ++ intsN r) : ∃ x, v = .int x ∧ placeOk r x := by
  rcases List.mem_append.mp h with e | e
  · exact ⟨-1, List.mem_singleton.mp e, .inl rfl⟩
  · obtain ⟨i, hi, rfl⟩ := List.mem_map.mp e
    rw [List.mem_range] at hi
    exact ⟨_, rfl, .inr ⟨by omega, by omega⟩⟩
theorem intsN_len (n : Nat) : (intsN n).length = n := by unfold intsN; rw [List.length_map, List.length_range]
section
variable {P : Program} {w : World} {K : PySem.W.Frag} {mg : Str → Option Value} {base : Heap}
theorem ok_l_condition_step {n : Nat} (F : FT K mg "_law_condition" s_l_condition ["_law_draws_here", "_law_registers", "_law_depth"]) (T : Tx mg) (G_l_take : FG P w K mg base (n + 1) "_law_take" ["_law_draws_here", "_law_many_here"] spTake) (G_l_condition : FG P w K mg base (n + 1) "_law_condition" ["_law_draws_here", "_law_registers", "_law_depth"] (spCond K n)) :
    FG P w K mg base (n + 2) "_law_condition" ["_law_draws_here", "_law_registers", "_law_depth"] (spCond K (n + 1)) := by
  refine F.ok sc_l_condition (fun vs H Q E h => ?_) (fun f cdv A outer s H vs Q E hr h => ?_)
  · obtain ⟨_, _, rfl, _⟩ := h
    rfl
  obtain ⟨d, r, rfl, _, hr2, hd, q⟩ := h
  have sc := sc_l_condition
  refine ⟨_, (pss_cons (ps_set (i := 3) sc.nd rfl (.inl rfl) (pe_cg G_l_take hr (by rfl) (pa_cons (pv 0) (pa_cons pe_int pa_nil))))
    (pss_cons (ps_set (i := 4) sc.nd rfl (.inl rfl) (pe_op op_cat (pe_lst (pa_cons (pe_un un_neg pe_int) pa_nil)) (pe_listRg rfl (by rfl) T.b_list (prg_1 (by rfl) T.b_range (pv 1)))))
    (pss_cons (ps_set (i := 5) sc.nd rfl (.inl rfl) (pe_ix ix_list (pv 4) (pe_cg G_l_take hr (by rfl) (pa_cons (pv 0) (pa_cons (pe_callB call_lenD (by rfl) T.b_len PySem.boot_len (pa_cons (pv 4) pa_nil)) pa_nil))) (fun _ _ => rfl)))
    (pss_cons (ps_set (i := 6) sc.nd rfl (.inl rfl) (pe_ix ix_list (pv 4) (pe_cg G_l_take hr (by rfl) (pa_cons (pv 0) (pa_cons (pe_callB call_lenD (by rfl) T.b_len PySem.boot_len (pa_cons (pv 4) pa_nil)) pa_nil))) (fun _ _ => rfl)))
    (pss_cons (ps_if (PW.pt (pw_or (pt_cmpR op_lt (pv 3) pe_int (nomark _)) (pw_or1 (PW.pt (pw_and (pt_cmpR op_lt (pv 2) pe_int (nomark _)) (pw_and1 (pt_cmpR op_gt (pv 3) pe_int (nomark _))))))))
    (pss_one (ps_ret (pe_tup (pa_cons pe_str (pa_cons (pv 5) (pa_cons (pv 6) pa_nil))))))
    pss_nil)
    (pss_cons (ps_if (pt_cmpR op_eq (pv 3) pe_int (nomark _))
    (pss_one (ps_ret (pe_ix ix_list (pe_lst (pa_cons (pe_tup (pa_cons pe_str (pa_cons (pv 5) (pa_cons (pv 6) pa_nil)))) (pa_cons (pe_tup (pa_cons pe_str (pa_cons (pv 5) (pa_cons (pv 6) pa_nil)))) (pa_cons (pe_tup (pa_cons pe_str pa_nil)) (pa_cons (pe_tup (pa_cons pe_str pa_nil)) pa_nil))))) (pe_cg G_l_take hr (by rfl) (pa_cons (pv 0) (pa_cons pe_int pa_nil))) (fun _ _ => rfl))))
    pss_nil)
    (pss_cons (ps_if (pt_cmpR op_eq (pv 3) pe_int (nomark _))
    (pss_one (ps_ret (pe_tup (pa_cons pe_str (pa_cons (pv 5) pa_nil)))))
    pss_nil)
    (pss_cons (ps_if (pt_cmpR op_eq (pv 3) pe_int (nomark _))
    (pss_one (ps_ret (pe_tup (pa_cons pe_str (pa_cons (pe_cg G_l_condition hr (by rfl) (pa_cons (pv 0) (pa_cons (pv 1) (pa_cons (pe_op op_sub (pv 2) pe_int) pa_nil)))) pa_nil)))))
    pss_nil)
    (pss_cons (ps_set (i := 7) sc.nd rfl (.inl rfl) (pe_callTy call_tupD (by rfl) T.b_tuple (by decide +kernel) (pa_cons (pe_lc (te := (tCall _ [] E0 (tCons (tVar 0) (tCons (tVar 1) (tCons (tOp _ (tVar 2) (tC (.int 1))) tNil))))) (own := [("_law_k", 8)]) rfl sc.nd (pi_range1 (by rfl) T.b_range (pa_cons (pe_cg G_l_take hr (by rfl) (pa_cons (pv 0) (pa_cons pe_int pa_nil))) pa_nil)) (blkOk_by (own := [("_law_k", 8)]) (N := ["_law_draws_here", "_law_registers", "_law_depth", "_law_kind", "_law_places", "_law_one", "_law_other", "_law_row", "_law_k"]) (sc := defScope s_l_condition) (by decide +kernel)) (fun _ _ _ _ _ => (pg_name (i := 8) sc.nd rfl (.inl rfl))) (fun _ _ _ _ _ => pts_nil) (fun _ _ _ _ _ => (pe_cg G_l_condition hr (by rfl) (pa_cons (pv 0) (pa_cons (pv 1) (pa_cons (pe_op op_sub (pv 2) pe_int) pa_nil)))))) pa_nil)))
    (pss_one (ps_ret (pe_tup (pa_cons (pe_ix ix_list (pe_lst (pa_cons pe_str (pa_cons pe_str pa_nil))) (pe_cg G_l_take hr (by rfl) (pa_cons (pv 0) (pa_cons pe_int pa_nil))) (fun _ _ => rfl)) (pa_cons (pv 7) pa_nil)))))))))))))), ?_⟩
  refine' i_start (by walk_at "set") ?_
  walk_at "t"
  refine ⟨d, 9, rfl, hd, by decide, fun kind H1 b0 b1 k1 hd1 => ?_⟩
  walk_at "t"
  refine g_lst (by show 1 ≤ 100000; decide) fun p1 H2 k2 n2 e2 => ?_
  walk_at "t"
  refine g_lrg (by omega) fun p2 H3 k3 n3 e3 => ?_
  refine i_catL (k3.get0 e2) e3 (by rw [intsN_len]; show 1 + r ≤ _; omega) fun pl H4 k4 n4 e4 => ?_
  have k14 := (k2.trans k3).trans k4
  have hd4 := hd1.up0 k14
  have npl := hd1.ne ((k2.trans k3).free n4)
  walk_at "t"
  refine i_lenL (SqL.of e4) ?_
  have ll : ([V.int (-1)] ++ intsN r).length = r + 1 := by rw [List.length_append, intsN_len]; show 1 + r = _; omega
  rw [ll]
  walk_at "t"
  refine ⟨d, _, rfl, hd4, by omega, fun i1 H5 c0 c1 k5 hd5 => ?_⟩
  have e5 := k5.get npl e4
  refine i_pick (SqL.of e5) c0 (by rw [ll]; omega) fun v1 hv1 => ?_
  obtain ⟨one, rfl, hone⟩ := places_mem hv1
  walk_at "t"
  refine i_lenL (SqL.of e5) ?_
  rw [ll]
  walk_at "t"
  refine ⟨d, _, rfl, hd5, by omega, fun i2 H6 c2 c3 k6 hd6 => ?_⟩
  have e6 := k6.get npl e5
  refine i_pick (SqL.of e6) c2 (by rw [ll]; omega) fun v2 hv2 => ?_
  obtain ⟨other, rfl, hother⟩ := places_mem hv2
  have k06 : Kp [d] H H6 := ((k1.trans k14.any).trans k5).trans k6
  walk_at "sq"
  have less : ∀ Q', (∀ u H', Kp [] H6 H' → Dt K H' u (condD (.less one other)) → Q' u H') → GTup Q' [V.str "less", V.int one, V.int other] H6 := fun Q' h =>
    g_tup (K := K) (ds := [.str "less", .int one, .int other]) (.cons (.str _) (.cons (.int _) (.one (.int _)))) (by show 3 ≤ 100000; decide) h
  have fin : ∀ c u H', Cond.ok r (n + 1) c → Dt K H' u (condD c) → Kp [d] H6 H' → Dr H' d → Q u H' := fun c u H' a b k x => q c u H' a b (k06.trans k) x
  refine i_seqJ (fun σ' H' => σ' = [some (.ref d), some (.int r), some (.int ((n + 1 : Nat) : Int)), some (.int kind), some (.ref pl), some (.int one), some (.int other), none, none] ∧ H6 = H' ∧ 5 ≤ kind ∧ (kind ≤ 6 ∨ 1 ≤ n)) (fun σ H' hp => ?_) (fun nx hnx => ?_)
  · obtain ⟨rfl, rfl, g5, g6⟩ := hp
    walk_at "t"
    refine ite2 (fun e => ?_) (fun e => ?_)
    · walk_at "t"
      refine g_tup (K := K) (ds := [.str "same", .int one, .int other]) (.cons (.str _) (.cons (.int _) (.one (.int _)))) (by show 3 ≤ 100000; decide) fun u1 H7 k7 hu1 => ?_
      walk_at "t"
      refine g_tup (K := K) (ds := [.str "same", .int one, .int other]) (.cons (.str _) (.cons (.int _) (.one (.int _)))) (by show 3 ≤ 100000; decide) fun u2 H8 k8 hu2 => ?_
      walk_at "t"
      refine g_tup (K := K) (ds := [.str "true"]) (.one (.str _)) (by show 1 ≤ 100000; decide) fun u3 H9 k9 hu3 => ?_
      walk_at "t"
      refine g_tup (K := K) (ds := [.str "false"]) (.one (.str _)) (by show 1 ≤ 100000; decide) fun u4 H10 k10 hu4 => ?_
      walk_at "t"
      refine g_lst (by show 4 ≤ 100000; decide) fun l11 H11 k11 n11 e11 => ?_
      have kA := (((k7.trans k8).trans k9).trans k10).trans k11
      have hd11 := hd6.up0 kA
      walk_at "t"
      refine ⟨d, 4, rfl, hd11, by decide, fun i3 H12 z0 z1 k12 hd12 => ?_⟩
      refine i_pick (SqL.of (k12.get (hd6.ne ((((k7.trans k8).trans k9).trans k10).free n11)) e11)) z0 z1 fun v hv => ?_
      have kB : Kp [d] H6 H12 := kA.any.trans k12
      have ka1 := ((k8.trans k9).trans k10).trans k11
      have ka2 := (k9.trans k10).trans k11
      have ka3 := k10.trans k11
      simp only [List.mem_cons, List.not_mem_nil, or_false] at hv
      rcases hv with rfl | rfl | rfl | rfl
      · exact fin (.same one other) _ H12 (by rw [Cond.ok]; exact ⟨hone, hother⟩) ((hu1.up ka1).up k12) kB hd12
      · exact fin (.same one other) _ H12 (by rw [Cond.ok]; exact ⟨hone, hother⟩) ((hu2.up ka2).up k12) kB hd12
      · exact fin .tt _ H12 (by rw [Cond.ok]; trivial) ((hu3.up ka3).up k12) kB hd12
      · exact fin .ff _ H12 (by rw [Cond.ok]; trivial) ((hu4.up k11).up k12) kB hd12
    have g5' : kind ≠ 5 := fun z => e (decide_eq_true z)
    walk_at "t"
    refine ite2 (fun e => ?_) (fun e => ?_)
    · walk_at "t"
      exact g_tup (K := K) (ds := [.str "empty", .int one]) (.cons (.str _) (.one (.int _))) (by show 2 ≤ 100000; decide) fun u1 H7 k7 hu1 => fin (.empty one) u1 H7 (by rw [Cond.ok]; exact hone) hu1 k7.any (hd6.up0 k7)
    have g6' : kind ≠ 6 := fun z => e (decide_eq_true z)
    have n1 : 1 ≤ n := by omega
    have en : ((n + 1 : Nat) : Int) - 1 = (n : Nat) := by omega
    walk_at "t"
    refine ite2 (fun e => ?_) (fun e => ?_)
    · walk_at "t"
      rw [en]
      refine ⟨d, r, rfl, n1, hr2, hd6, fun c u H7 hok hu k7 hd7 => ?_⟩
      walk_at "t"
      exact g_tup (K := K) (.cons (.str _) (.one hu)) (by show 2 ≤ 100000; decide) fun u1 H8 k8 hu1 => fin (.not c) u1 H8 (by rw [Cond.ok]; exact hok) hu1 (k7.trans k8.any) (hd7.up0 k8)
    walk_at "t"
    refine ⟨d, 3, rfl, hd6, by decide, fun i3 H7 z0 z1 k7 hd7 => ?_⟩
    obtain ⟨m, rfl⟩ : ∃ m : Nat, i3 = (m : Int) := ⟨i3.toNat, by omega⟩
    refine go_lcR (M := [d]) (k := m) rfl (by omega) (fun i acc H' => Dr H' d ∧ ∃ cs : List Cond, cs.length ≤ i ∧ (∀ c ∈ cs, Cond.ok r n c) ∧ DtAll K H' acc (cs.map condD)) (fun i acc H1 H2 D hD k p => ⟨p.1.upD hd7 hD k, p.2.imp fun cs z => ⟨z.1, z.2.1, z.2.2.up k⟩⟩) ⟨hd7, [], Nat.le_refl _, fun _ z => (nomatch z), .nil⟩ (fun i acc H8 D hi k8 hD hacc hlt p R1 R0 r1 r0 => ?_) (fun l H8 acc k8 nl hl' hle p => ?_)
    · obtain ⟨hd8, cs, hcl, hcs, hda⟩ := p
      refine' t_yes (by decide) (by walk_at "set") ?_
      walk_at "t"
      rw [en]
      refine ⟨d, r, rfl, n1, hr2, hd8, fun c u H9 hok hu k9 hd9 => ?_⟩
      refine r1 u H9 (k9.get (hd7.ne hD) hacc) (k8.trans k9) ⟨hd9, cs ++ [c], by rw [List.length_append]; show cs.length + 1 ≤ i + 1; omega, fun c' hc' => ?_, ?_⟩
      · rcases List.mem_append.mp hc' with z | z
        · exact hcs c' z
        · rw [List.mem_singleton.mp z]; exact hok
      · rw [List.map_append]
        exact (hda.up k9).append (.one hu)
    · obtain ⟨hd8, cs, hcl, hcs, hda⟩ := p
      walk_at "t"
      refine i_tupL hl' hda fun row H9 k9 hrow => ?_
      walk_at "t"
      refine g_lst (by show 2 ≤ 100000; decide) fun l10 H10 k10 n10 e10 => ?_
      walk_at "t"
      have kA := k9.trans k10
      refine ⟨d, 2, rfl, hd8.up0 kA, by decide, fun i4 H11 y0 y1 k11 hd11 => ?_⟩
      refine i_pick (SqL.of (k11.get ((hd8.up0 k9).ne n10) e10)) y0 y1 fun v hv => ?_
      walk_at "t"
      have hrow := (hrow.up k10).up k11
      have kB : Kp [d] H6 H11 := ((k7.trans k8).trans kA.any).trans k11
      have okc : Cond.okAll r n cs ∧ cs.length ≤ 60 := ⟨Cond.okAll_of hcs, by omega⟩
      simp only [List.mem_cons, List.not_mem_nil, or_false] at hv
      rcases hv with rfl | rfl
      · refine g_tup (K := K) (.cons (.str _) (.one hrow)) (by show 2 ≤ 100000; decide) fun u1 H12 k12 hu1 => ?_
        exact fin (.all cs) u1 H12 (by rw [Cond.ok]; exact okc) (by rw [condD, condDs_map]; exact hu1) (kB.trans k12.any) (hd11.up0 k12)
      · refine g_tup (K := K) (.cons (.str _) (.one hrow)) (by show 2 ≤ 100000; decide) fun u1 H12 k12 hu1 => ?_
        exact fin (.any cs) u1 H12 (by rw [Cond.ok]; exact okc) (by rw [condD, condDs_map]; exact hu1) (kB.trans k12.any) (hd11.up0 k12)
  · have okl : Cond.ok r (n + 1) (.less one other) := by rw [Cond.ok]; exact ⟨hone, hother⟩
    walk_at "t"
    refine ite2 (fun e => ?_) (fun e => ?_)
    · refine ifT rfl ?_
      walk_at "t"
      exact less _ fun u H' k hu => fin _ u H' okl hu k.any (hd6.up0 k)
    have g5 : 5 ≤ kind := by
      have z : ¬ kind < 5 := fun z => e (decide_eq_true z)
      omega
    walk_at "t"
    refine ite2 (fun e2 => ?_) (fun e2 => ?_)
    · walk_at "t"
      refine ite2 (fun e3 => ?_) (fun e3 => ?_)
      · walk_at "t"
        exact less _ fun u H' k hu => fin _ u H' okl hu k.any (hd6.up0 k)
      · walk_at "t"
        refine hnx _ _ ⟨rfl, rfl, g5, .inl ?_⟩
        have z : ¬ 6 < kind := fun z => e3 (decide_eq_true z)
        omega
    · refine ifF rfl ?_
      walk_at "t"
      refine hnx _ _ ⟨rfl, rfl, g5, .inr ?_⟩
      have z : ¬ (((n + 1 : Nat)) : Int) < 2 := fun z => e2 (decide_eq_true z)
      omega
theorem ok_l_condition (F : FT K mg "_law_condition" s_l_condition ["_law_draws_here", "_law_registers", "_law_depth"]) (T : Tx mg) (G : FG P w K mg base 1 "_law_take" ["_law_draws_here", "_law_many_here"] spTake) : ∀ n, FG P w K mg base (n + 1) "_law_condition" ["_law_draws_here", "_law_registers", "_law_depth"] (spCond K n)
  | 0 => by
    obtain ⟨f, fd, F, m, b⟩ := F.ex
    have no : ∀ vs H Q E, ¬ spCond K 0 vs H Q E := fun vs H Q E h => by
      obtain ⟨_, _, _, z, _⟩ := h
      omega
    exact ⟨f, fd, ⟨fun vs H Q E h => absurd h (no vs H Q E), fun A outer s H args us vs Q E _ _ _ _ h => absurd h (no vs H Q E)⟩, m, F.kp, b⟩
  | n + 1 => ok_l_condition_step F T (G.mono (by omega)) (ok_l_condition F T G n)
end
abbrev s_l_drawn_machine : Stmt := topS 22
theorem sc_l_drawn_machine : FnScope ["_law_draws_here", "_law_tags", "_law_registers", "_law_standings", "_law_steps", "_law_standing", "_law_rows", "_law_tag", "_law_cases", "_law_k", "_law_condition_here"] ["_law_draws_here", "_law_tags", "_law_registers", "_law_standings"] (defScope s_l_drawn_machine) := ⟨rfl, rfl, rfl, by decide +kernel, rfl, by decide +kernel, by decide +kernel⟩
section
variable {K : PySem.W.Frag} {H : Hp} {Q : VK}
theorem i_pickI {l : Addr} {i : Int} (ns : List Int) (h : SqL K H l (ns.map V.int)) (h0 : 0 ≤ i) (h1 : i < ns.length) (q : ∀ x, x ∈ ns → Q (.int x) H) : rIxL K (.ref l) (.int i) H Q :=
  i_pick h h0 (by rw [List.length_map]; exact h1) fun v hv => by
    obtain ⟨x, hx, rfl⟩ := List.mem_map.mp hv
    exact q x hx
end
def spDCase (K : PySem.W.Frag) : Sp := fun vs H Q _ => ∃ (d : Addr) (r S : Nat) (c : Cond) (a : V), vs = [.ref d, .int r, .int S, a] ∧ r ≤ 2 ∧ 1 ≤ S ∧ Dr H d ∧ Dt K H a (condD c) ∧ Cond.ok r 3 c ∧ ∀ cs u H', Case.Ok r S cs → Dt K H' u (caseD cs) → Kp [d] H H' → Dr H' d → Q u H'
theorem src_mem {r : Nat} {v : V} (h : v ∈ intsN r ++ [V.int (-1), V.int (-1), V.int (-2)]) : ∃ x, v = .int x ∧ srcOk r x := by
  rcases List.mem_append.mp h with e | e
  · obtain ⟨i, hi, rfl⟩ := List.mem_map.mp e
    rw [List.mem_range] at hi
    exact ⟨_, rfl, .inr (.inr ⟨by omega, by omega⟩)⟩
  · simp only [List.mem_cons, List.not_mem_nil, or_false] at e
    rcases e with e | e | e
    · exact ⟨_, e, .inl rfl⟩
    · exact ⟨_, e, .inl rfl⟩
    · exact ⟨_, e, .inr (.inl rfl)⟩
section
variable {P : Program} {w : World} {K : PySem.W.Frag} {mg : Str → Option Value} {base : Heap}
theorem ok_l_drawn_case (F : FT K mg "_law_drawn_case" s_l_drawn_case ["_law_draws_here", "_law_registers", "_law_standings", "_law_condition_here"]) (T : Tx mg) (G_l_take : FG P w K mg base 1 "_law_take" ["_law_draws_here", "_law_many_here"] spTake) : FG P w K mg base 2 "_law_drawn_case" ["_law_draws_here", "_law_registers", "_law_standings", "_law_condition_here"] (spDCase K) := by
  refine F.ok sc_l_drawn_case (fun vs H Q E h => ?_) (fun f cdv A outer s H vs Q E hr h => ?_)
  · obtain ⟨_, _, _, _, _, rfl, _⟩ := h
    rfl
  obtain ⟨d, r, S, c, a, rfl, hr2, hS, hd, ha, hok, q⟩ := h
  have sc := sc_l_drawn_case
  refine ⟨_, (pss_cons (ps_set (i := 4) sc.nd rfl (.inl rfl) (pe_op op_cat (pe_listRg rfl (by rfl) T.b_list (prg_1 (by rfl) T.b_range (pv 1))) (pe_lst (pa_cons (pe_un un_neg pe_int) (pa_cons (pe_un un_neg pe_int) (pa_cons (pe_un un_neg pe_int) pa_nil))))))
    (pss_cons (ps_set (i := 5) sc.nd rfl (.inl rfl) (pe_lst pa_nil))
    (pss_cons (ps_for PassesOwn.never rfl (pi_range1 (by rfl) T.b_range (pa_cons (pv 1) pa_nil)) (pg_name (i := 6) sc.nd rfl (.inl rfl))
    (pss_one (ps_expr (pe_bm PySem.F.plainAttrs_list PySem.F.slot_list_append PySem.F.type_list_append mt_append (pv 5) (pa_cons (pe_ix ix_list (pe_lst (pa_cons (pv 6) (pa_cons (pv 6) (pa_cons (pe_un un_neg pe_int) (pa_cons (pe_ix ix_list (pv 4) (pe_cg G_l_take hr (by rfl) (pa_cons (pv 0) (pa_cons (pe_callB call_lenD (by rfl) T.b_len PySem.boot_len (pa_cons (pv 4) pa_nil)) pa_nil))) (fun _ _ => rfl)) pa_nil))))) (pe_cg G_l_take hr (by rfl) (pa_cons (pv 0) (pa_cons pe_int pa_nil))) (fun _ _ => rfl)) pa_nil)))))
    (pss_cons (ps_set (i := 7) sc.nd rfl (.inl rfl) (pe_lst pa_nil))
    (pss_cons (ps_for PassesOwn.never rfl (pi_range1 (by rfl) T.b_range (pa_cons (pe_ix ix_list (pe_lst (pa_cons pe_int (pa_cons pe_int (pa_cons pe_int (pa_cons pe_int (pa_cons pe_int (pa_cons pe_int (pa_cons pe_int (pa_cons pe_int pa_nil))))))))) (pe_cg G_l_take hr (by rfl) (pa_cons (pv 0) (pa_cons pe_int pa_nil))) (fun _ _ => rfl)) pa_nil)) (pg_name (i := 8) sc.nd rfl (.inl rfl))
    (pss_one (ps_expr (pe_bm PySem.F.plainAttrs_list PySem.F.slot_list_append PySem.F.type_list_append mt_append (pv 7) (pa_cons (pe_tup (pa_cons (pe_ix ix_list (pe_lst (pa_cons pe_int (pa_cons pe_int (pa_cons pe_int (pa_cons pe_int (pa_cons pe_int (pa_cons (pe_op op_pow pe_int pe_int) pa_nil))))))) (pe_cg G_l_take hr (by rfl) (pa_cons (pv 0) (pa_cons pe_int pa_nil))) (fun _ _ => rfl)) (pa_cons (pe_ix ix_list (pv 4) (pe_cg G_l_take hr (by rfl) (pa_cons (pv 0) (pa_cons (pe_callB call_lenD (by rfl) T.b_len PySem.boot_len (pa_cons (pv 4) pa_nil)) pa_nil))) (fun _ _ => rfl)) pa_nil))) pa_nil)))))
    (pss_one (ps_ret (pe_tup (pa_cons (pv 3) (pa_cons (pe_callTy call_tupD (by rfl) T.b_tuple (by decide +kernel) (pa_cons (pv 5) pa_nil)) (pa_cons (pe_callTy call_tupD (by rfl) T.b_tuple (by decide +kernel) (pa_cons (pv 7) pa_nil)) (pa_cons (pe_cg G_l_take hr (by rfl) (pa_cons (pv 0) (pa_cons (pv 2) pa_nil))) pa_nil)))))))))))), ?_⟩
  refine' i_start (by walk_at "set") ?_
  walk_at "t"
  refine g_lrg (by omega) fun p1 H1 k1 n1 e1 => ?_
  walk_at "t"
  refine g_lst (by show 3 ≤ 100000; decide) fun p2 H2 k2 n2 e2 => ?_
  refine i_catL (k2.get0 e1) e2 (by rw [intsN_len]; show r + 3 ≤ _; omega) fun ls H3 k3 n3 e3 => ?_
  have ll : (intsN r ++ [V.int (-1), V.int (-1), V.int (-2)]).length = r + 3 := by rw [List.length_append, intsN_len]; rfl
  walk_at "t"
  refine g_lst (Nat.zero_le _) fun lm H4 k4 n4 e4 => ?_
  walk_at "t"
  have k04 := ((k1.trans k2).trans k3).trans k4
  have hd4 := hd.up0 k04
  have nls := hd.ne ((k1.trans k2).free n3)
  have nlm := hd.ne (((k1.trans k2).trans k3).free n4)
  have nlm0 : H lm = none := ((k1.trans k2).trans k3).free n4
  have nsm : ls ≠ lm := fun z => by rw [← z, e3] at n4; cases n4
  have es4 := k4.get0 e3
  refine go_forR (k := r) rfl (by omega) (fun i σ H' => ∃ (y6 : Option V) (ms : List Int), σ = [some (.ref d), some (.int (r : Nat)), some (.int (S : Nat)), some a, some (.ref ls), some (.ref lm), y6, none, none] ∧ Kp [d, lm] H4 H' ∧ Dr H' d ∧ H' lm = some (.lst (ms.map V.int)) ∧ ms.length = i ∧ ∀ x ∈ ms, srcOk r x)
    ⟨none, [], rfl, Kp.refl, hd4, e4, rfl, fun _ z => (nomatch z)⟩ (fun i σ H5 hi pv => ?_) (fun σ H5 pv => ?_)
  · obtain ⟨y6, ms, rfl, k5, hd5, em5, hml, hms⟩ := pv
    have es5 : H5 ls = some (.lst (intsN r ++ [V.int (-1), V.int (-1), V.int (-2)])) := k5.get (by simp [nsm]; exact fun z => nls (by rw [z]; exact List.mem_cons_self)) es4
    walk_at "t"
    refine ⟨ty_lst (SqL.of em5), ?_⟩
    walk_at "t"
    refine i_lenL (SqL.of es5) ?_
    rw [ll]
    walk_at "t"
    refine ⟨d, _, rfl, hd5, by omega, fun i1 H6 z0 z1 k6 hd6 => ?_⟩
    refine i_pick (SqL.of (k6.get nls es5)) z0 (by rw [ll]; exact z1) fun v hv => ?_
    obtain ⟨src, rfl, hsrc⟩ := src_mem hv
    walk_at "t"
    refine g_lst (by show 4 ≤ 100000; decide) fun l7 H7 k7 n7 e7 => ?_
    walk_at "t"
    refine ⟨d, 4, rfl, hd6.up0 k7, by decide, fun i2 H8 z2 z3 k8 hd8 => ?_⟩
    refine i_pickI [(i : Nat), (i : Nat), -1, src] (SqL.of (k8.get (hd6.ne n7) e7)) z2 z3 fun x hx => ?_
    walk_at "t"
    have em8 := k8.get nlm (k7.get0 (k6.get nlm em5))
    refine i_append em8 (by rw [List.length_map]; omega) fun H9 k9 e9 => ?_
    have ox : srcOk r x := by
      simp only [List.mem_cons, List.not_mem_nil, or_false] at hx
      rcases hx with rfl | rfl | rfl | rfl
      · exact .inr (.inr ⟨by omega, by omega⟩)
      · exact .inr (.inr ⟨by omega, by omega⟩)
      · exact .inl rfl
      · exact hsrc
    refine ⟨_, ms ++ [x], rfl, (k5.trans ((k6.trans (k7.any.trans k8)).mono (by simp))).trans (k9.mono (by simp)), hd8.upD hd nlm0 k9, ?_, by rw [List.length_append, List.length_singleton, hml], fun y hy => ?_⟩
    · rw [e9, List.map_append]
      rfl
    · rcases List.mem_append.mp hy with z | z
      · exact hms y z
      · rw [List.mem_singleton.mp z]; exact ox
  · obtain ⟨y6, ms, rfl, k5, hd5, em5, hml, hms⟩ := pv
    have es5 : H5 ls = some (.lst (intsN r ++ [V.int (-1), V.int (-1), V.int (-2)])) := k5.get (by simp [nsm]; exact fun z => nls (by rw [z]; exact List.mem_cons_self)) es4
    walk_at "t"
    refine g_lst (Nat.zero_le _) fun ly H6 k6 n6 e6 => ?_
    walk_at "t"
    refine g_lst (by show 8 ≤ 100000; decide) fun l7 H7 k7 n7 e7 => ?_
    walk_at "t"
    have hd6 := hd5.up0 k6
    have hd7 := hd6.up0 k7
    have nly := hd5.ne n6
    have nyd : ly ≠ d := fun z => nly (by rw [z]; exact List.mem_cons_self)
    refine ⟨d, 8, rfl, hd7, by decide, fun i1 H8 z0 z1 k8 hd8 => ?_⟩
    refine i_pickI [0, 1, 1, 2, 0, 1, 2, 8] (SqL.of (k8.get (hd6.ne n7) e7)) z0 z1 fun x hx => ?_
    obtain ⟨n, rfl, hn⟩ : ∃ n : Nat, x = (n : Int) ∧ n ≤ 8 := by
      simp only [List.mem_cons, List.not_mem_nil, or_false] at hx
      exact ⟨x.toNat, by omega, by omega⟩
    have nys : ly ≠ ls := fun z => by rw [z, es5] at n6; cases n6
    have nym : ly ≠ lm := fun z => by rw [z, em5] at n6; cases n6
    have k68 : Kp [d] H6 H8 := k7.any.trans k8
    refine go_forR (k := n) rfl (by omega) (fun i σ H' => ∃ (y8 : Option V) (ss : List (Int × Int)) (acc : List V), σ = [some (.ref d), some (.int (r : Nat)), some (.int (S : Nat)), some a, some (.ref ls), some (.ref lm), y6, some (.ref ly), y8] ∧ Kp [d, ly] H6 H' ∧ Dr H' d ∧ H' ly = some (.lst acc) ∧ DtAll K H' acc (ss.map sayD) ∧ ss.length = i ∧ ∀ p ∈ ss, srcOk r p.2)
      ⟨none, [], [], rfl, k68.mono (by simp), hd8, k68.get nly e6, .nil, rfl, fun _ z => (nomatch z)⟩ (fun i σ H9 hi pv => ?_) (fun σ H9 pv => ?_)
    · obtain ⟨y8, ss, acc, rfl, k9, hd9, ey9, hacc, hsl, hss⟩ := pv
      have es9 : H9 ls = some (.lst (intsN r ++ [V.int (-1), V.int (-1), V.int (-2)])) := k9.get (by simp [Ne.symm nys]; exact fun z => nls (by rw [z]; exact List.mem_cons_self)) (k6.get0 es5)
      walk_at "t"
      refine ⟨ty_lst (SqL.of ey9), ?_⟩
      walk_at "t"
      refine i_I ⟨by decide, by decide, by decide⟩ ?_
      walk_at "t"
      refine g_lst (by show 6 ≤ 100000; decide) fun l10 H10 k10 n10 e10 => ?_
      walk_at "t"
      refine ⟨d, 6, rfl, hd9.up0 k10, by decide, fun i2 H11 z2 z3 k11 hd11 => ?_⟩
      refine i_pickI [0, 1, 0, 1, 2, 10 ^ (40 : Int).toNat] (SqL.of (k11.get (hd9.ne n10) e10)) z2 z3 fun x hx => ?_
      walk_at "t"
      have es11 := k11.get nls (k10.get0 es9)
      refine i_lenL (SqL.of es11) ?_
      rw [ll]
      walk_at "t"
      refine ⟨d, _, rfl, hd11, by omega, fun i3 H12 z4 z5 k12 hd12 => ?_⟩
      refine i_pick (SqL.of (k12.get nls es11)) z4 (by rw [ll]; exact z5) fun v hv => ?_
      obtain ⟨src, rfl, hsrc⟩ := src_mem hv
      walk_at "t"
      refine g_tup (K := K) (ds := [.int x, .int src]) (.cons (.int _) (.one (.int _))) (by show 2 ≤ 100000; decide) fun z H13 k13 hz => ?_
      have kk : Kp [d] H9 H13 := ((k10.any.trans k11).trans k12).trans k13.any
      walk_at "t"
      have la := hacc.length
      rw [List.length_map] at la
      refine i_append (kk.get nly ey9) (by omega) fun H14 k14 e14 => ?_
      refine ⟨_, ss ++ [(x, src)], _, rfl, (k9.trans (kk.mono (by simp))).trans (k14.mono (by simp)), (hd12.up0 k13).up k14 (fun z => nyd (List.mem_singleton.mp z).symm), e14, ?_, by rw [List.length_append, List.length_singleton, hsl], fun p hp => ?_⟩
      · rw [List.map_append]
        exact ((hacc.up kk).up k14).append (.one (hz.up k14))
      · rcases List.mem_append.mp hp with z | z
        · exact hss p z
        · rw [List.mem_singleton.mp z]; exact hsrc
    · obtain ⟨y8, ss, acc, rfl, k9, hd9, ey9, hacc, hsl, hss⟩ := pv
      have em9 : H9 lm = some (.lst (ms.map V.int)) := k9.get (by simp [Ne.symm nym]; exact fun z => nlm (by rw [z]; exact List.mem_cons_self)) (k6.get0 em5)
      walk_at "t"
      refine i_tupL (ds := ms.map PyData.int) em9 (dtAll_ints _) fun t1 H10 k10 h1 => ?_
      walk_at "t"
      refine i_tupL (k10.get0 ey9) (hacc.up k10) fun t2 H11 k11 h2 => ?_
      walk_at "t"
      have hd11 := (hd9.up0 k10).up0 k11
      refine ⟨d, _, rfl, hd11, by omega, fun i4 H12 z6 z7 k12 hd12 => ?_⟩
      obtain ⟨nx, rfl⟩ : ∃ n : Nat, i4 = (n : Int) := ⟨i4.toNat, by omega⟩
      walk_at "t"
      have kA : Kp [d, lm, ly] H H12 := ((((k04.any.trans (k5.mono (by simp))).trans k6.any).trans (k9.mono (by simp))).trans (k10.trans k11).any).trans (k12.mono (by simp))
      refine g_tup (K := K) (.cons (ha.up kA) (.cons ((h1.up k11).up k12) (.cons (h2.up k12) (.one (.int _))))) (by show 4 ≤ 100000; decide) fun u H13 k13 hu => ?_
      have nly0 : H ly = none := by
        have z : Kp [d, lm] H H5 := k04.any.trans k5
        by_cases e1 : ly = lm
        · rw [e1]; exact nlm0
        · exact z.freeM (by simp [e1, nyd]) n6
      have kB : Kp [d] H H13 := by
        refine (Kp.refl (M := [d])).fresh (kA.trans k13.any) fun x hx => ?_
        simp only [List.mem_cons, List.not_mem_nil, or_false] at hx
        rcases hx with rfl | rfl | rfl
        · exact .inl List.mem_cons_self
        · exact .inr nlm0
        · exact .inr nly0
      exact q ⟨c, ms, ss, nx⟩ u H13 ⟨hok, hms, hml, hss, by show ss.length ≤ 60; omega, by show nx < S; omega⟩ hu kB (hd12.up0 k13)
end
structure MkB (b : Nat) (m : Mach) : Prop where
  tags : 1 ≤ m.tags ∧ m.tags ≤ b
  regs : m.regs ≤ 2
  num : 1 ≤ m.steps.length ∧ m.steps.length ≤ 3
  rows : ∀ row ∈ m.steps, row.length = m.tags
  css : ∀ row ∈ m.steps, ∀ cs ∈ row, cs.length ≤ b ∧ ∀ c ∈ cs, c.Ok m.regs m.steps.length
theorem MkB.ok {b : Nat} {m : Mach} (h : MkB b m) (hb : b ≤ 60) : m.Ok :=
  ⟨⟨h.tags.1, by have := h.tags.2; omega⟩, h.regs, h.num, h.rows, fun row hr cs hc => ⟨by have := (h.css row hr cs hc).1; omega, (h.css row hr cs hc).2⟩⟩
theorem MkB.mono {b b' : Nat} {m : Mach} (h : MkB b m) (hb : b ≤ b') : MkB b' m :=
  ⟨⟨h.tags.1, by have := h.tags.2; omega⟩, h.regs, h.num, h.rows, fun row hr cs hc => ⟨by have := (h.css row hr cs hc).1; omega, (h.css row hr cs hc).2⟩⟩
def spDMach (K : PySem.W.Frag) : Sp := fun vs H Q _ => ∃ (d : Addr) (t r S : Nat), vs = [.ref d, .int t, .int r, .int S] ∧ 1 ≤ t ∧ t ≤ 8 ∧ r ≤ 2 ∧ 1 ≤ S ∧ S ≤ 3 ∧ Dr H d ∧ ∀ m u H', MkB 10 m → Dt K H' u (machD m) → Kp [d] H H' → Dr H' d → Q u H'
def spWithCase (K : PySem.W.Frag) : Sp := fun vs H Q _ => ∃ (m : Mach) (s t : Nat) (row : List (List Case)) (cs : List Case) (a : V) (l : Addr) (acc : List V), vs = [a, .int s, .int t, .ref l] ∧ Dt K H a (machD m) ∧ m.steps[s]? = some row ∧ m.steps.length ≤ 60 ∧ row.length ≤ 60 ∧ t < row.length ∧ H l = some (.lst acc) ∧ DtAll K H acc (cs.map caseD) ∧
  ∀ u H', Kp [] H H' → Dt K H' u (machD ⟨m.tags, m.regs, m.steps.take s ++ [row.take t ++ [cs] ++ row.drop (t + 1)] ++ m.steps.drop (s + 1)⟩) → Q u H'
/-- lists that go on: what stood before stays -/
theorem okc_snoc {b r S : Nat} {cs : List Case} {c : Case} (h : ∀ x ∈ cs, Case.Ok r S x) (hc : Case.Ok r S c) : ∀ x ∈ cs ++ [c], Case.Ok r S x := fun x hx => by
  rcases List.mem_append.mp hx with z | z
  · exact h x z
  · rw [List.mem_singleton.mp z]; exact hc
section
variable {P : Program} {w : World} {K : PySem.W.Frag} {mg : Str → Option Value} {base : Heap}
theorem ok_l_drawn_machine (F : FT K mg "_law_drawn_machine" s_l_drawn_machine ["_law_draws_here", "_law_tags", "_law_registers", "_law_standings"]) (T : Tx mg) (G_l_take : FG P w K mg base 1 "_law_take" ["_law_draws_here", "_law_many_here"] spTake) (G_l_condition : FG P w K mg base 3 "_law_condition" ["_law_draws_here", "_law_registers", "_law_depth"] (spCond K 2))
    (G_l_drawn_case : FG P w K mg base 2 "_law_drawn_case" ["_law_draws_here", "_law_registers", "_law_standings", "_law_condition_here"] (spDCase K)) : FG P w K mg base 4 "_law_drawn_machine" ["_law_draws_here", "_law_tags", "_law_registers", "_law_standings"] (spDMach K) := by
  have G_l_take := G_l_take.mono (show 1 ≤ 3 by omega)
  have G_l_drawn_case := G_l_drawn_case.mono (show 2 ≤ 3 by omega)
  refine F.ok sc_l_drawn_machine (fun vs H Q E h => ?_) (fun f cdv A outer s H vs Q E hr h => ?_)
  · obtain ⟨_, _, _, _, rfl, _⟩ := h
    rfl
  obtain ⟨d, t, r, S, rfl, ht1, ht8, hr2, hS1, hS3, hd, q⟩ := h
  have sc := sc_l_drawn_machine
  refine ⟨_, (pss_cons (ps_set (i := 4) sc.nd rfl (.inl rfl) (pe_lst pa_nil))
    (pss_cons (ps_for PassesOwn.never rfl (pi_range1 (by rfl) T.b_range (pa_cons (pv 3) pa_nil)) (pg_name (i := 5) sc.nd rfl (.inl rfl))
    (pss_cons (ps_set (i := 6) sc.nd rfl (.inl rfl) (pe_lst pa_nil))
    (pss_cons (ps_for PassesOwn.never rfl (pi_range1 (by rfl) T.b_range (pa_cons (pv 1) pa_nil)) (pg_name (i := 7) sc.nd rfl (.inl rfl))
    (pss_cons (ps_set (i := 8) sc.nd rfl (.inl rfl) (pe_lst pa_nil))
    (pss_cons (ps_for PassesOwn.never rfl (pi_range1 (by rfl) T.b_range (pa_cons (pe_ix ix_list (pe_lst (pa_cons pe_int (pa_cons pe_int (pa_cons pe_int (pa_cons pe_int (pa_cons pe_int (pa_cons pe_int pa_nil))))))) (pe_cg G_l_take hr (by rfl) (pa_cons (pv 0) (pa_cons pe_int pa_nil))) (fun _ _ => rfl)) pa_nil)) (pg_name (i := 9) sc.nd rfl (.inl rfl))
    (pss_cons (ps_set (i := 10) sc.nd rfl (.inl rfl) (pe_cg G_l_condition hr (by rfl) (pa_cons (pv 0) (pa_cons (pv 2) (pa_cons pe_int pa_nil)))))
    (pss_one (ps_expr (pe_bm PySem.F.plainAttrs_list PySem.F.slot_list_append PySem.F.type_list_append mt_append (pv 8) (pa_cons (pe_cg G_l_drawn_case hr (by rfl) (pa_cons (pv 0) (pa_cons (pv 2) (pa_cons (pv 3) (pa_cons (pv 10) pa_nil))))) pa_nil))))))
    (pss_one (ps_expr (pe_bm PySem.F.plainAttrs_list PySem.F.slot_list_append PySem.F.type_list_append mt_append (pv 6) (pa_cons (pe_callTy call_tupD (by rfl) T.b_tuple (by decide +kernel) (pa_cons (pv 8) pa_nil)) pa_nil)))))))
    (pss_one (ps_expr (pe_bm PySem.F.plainAttrs_list PySem.F.slot_list_append PySem.F.type_list_append mt_append (pv 4) (pa_cons (pe_callTy call_tupD (by rfl) T.b_tuple (by decide +kernel) (pa_cons (pv 6) pa_nil)) pa_nil)))))))
    (pss_one (ps_ret (pe_tup (pa_cons (pv 1) (pa_cons (pv 2) (pa_cons (pe_callTy call_tupD (by rfl) T.b_tuple (by decide +kernel) (pa_cons (pv 4) pa_nil)) pa_nil)))))))), ?_⟩
  refine' i_start (by walk_at "set") ?_
  walk_at "t"
  refine g_lst (Nat.zero_le _) fun l1 H1 k1 n1 e1 => ?_
  walk_at "t"
  have hd1 := hd.up0 k1
  have nl1 := hd.ne n1
  have ndl1 : d ≠ l1 := fun z => nl1 (by rw [z]; exact List.mem_cons_self)
  refine go_forR (k := S) rfl (by omega) (fun i σ H' => ∃ (y5 y6 y7 y8 y9 y10 : Option V) (st : List (List (List Case))) (acc : List V), σ = [some (.ref d), some (.int (t : Nat)), some (.int (r : Nat)), some (.int (S : Nat)), some (.ref l1), y5, y6, y7, y8, y9, y10] ∧ Kp [d, l1] H1 H' ∧ Dr H' d ∧ H' l1 = some (.lst acc) ∧ DtAll K H' acc (st.map rowD) ∧ st.length = i ∧
    ∀ row ∈ st, row.length = t ∧ ∀ cs ∈ row, cs.length ≤ 10 ∧ ∀ c ∈ cs, c.Ok r S) ⟨none, none, none, none, none, none, [], [], rfl, Kp.refl, hd1, e1, .nil, rfl, fun _ z => (nomatch z)⟩ (fun i σ H2 hi pv => ?_) (fun σ H2 pv => ?_)
  · obtain ⟨y5, y6, y7, y8, y9, y10, st, acc, rfl, k2, hd2, e2, hacc, hsl, hst⟩ := pv
    walk_at "t"
    refine g_lst (Nat.zero_le _) fun l3 H3 k3 n3 e3 => ?_
    walk_at "t"
    have hd3 := hd2.up0 k3
    have nl3 := hd2.ne n3
    have ndl3 : d ≠ l3 := fun z => nl3 (by rw [z]; exact List.mem_cons_self)
    have n13 : l1 ≠ l3 := fun z => by rw [← z, e2] at n3; cases n3
    refine go_forR (k := t) rfl (by omega) (fun i2 σ H' => ∃ (y7 y8 y9 y10 : Option V) (row : List (List Case)) (acc3 : List V), σ = [some (.ref d), some (.int (t : Nat)), some (.int (r : Nat)), some (.int (S : Nat)), some (.ref l1), some (.int (i : Nat)), some (.ref l3), y7, y8, y9, y10] ∧ Kp [d, l3] H3 H' ∧ Dr H' d ∧ H' l3 = some (.lst acc3) ∧ DtAll K H' acc3 (row.map casesD) ∧ row.length = i2 ∧
      ∀ cs ∈ row, cs.length ≤ 10 ∧ ∀ c ∈ cs, c.Ok r S) ⟨y7, y8, y9, y10, [], [], rfl, Kp.refl, hd3, e3, .nil, rfl, fun _ z => (nomatch z)⟩ (fun i2 σ H4 hi2 pv => ?_) (fun σ H4 pv => ?_)
    · obtain ⟨y7, y8, y9, y10, row, acc3, rfl, k4, hd4, e4, hacc3, hrl, hrow⟩ := pv
      walk_at "t"
      refine g_lst (Nat.zero_le _) fun l5 H5 k5 n5 e5 => ?_
      walk_at "t"
      have hd5 := hd4.up0 k5
      have nl5 := hd4.ne n5
      have ndl5 : d ≠ l5 := fun z => nl5 (by rw [z]; exact List.mem_cons_self)
      have n35 : l3 ≠ l5 := fun z => by rw [← z, e4] at n5; cases n5
      refine g_lst (by show 6 ≤ 100000; decide) fun l6 H6 k6 n6 e6 => ?_
      walk_at "t"
      refine ⟨d, 6, rfl, hd5.up0 k6, by decide, fun i3 H7 z0 z1 k7 hd7 => ?_⟩
      refine i_pickI [1, 1, 2, 2, 3, 0] (SqL.of (k7.get (hd5.ne n6) e6)) z0 z1 fun x hx => ?_
      obtain ⟨n, rfl, hn⟩ : ∃ n : Nat, x = (n : Int) ∧ n ≤ 3 := by
        simp only [List.mem_cons, List.not_mem_nil, or_false] at hx
        exact ⟨x.toNat, by omega, by omega⟩
      refine go_forR (k := n) rfl (by omega) (fun i4 σ H' => ∃ (y9 y10 : Option V) (cs : List Case) (acc5 : List V), σ = [some (.ref d), some (.int (t : Nat)), some (.int (r : Nat)), some (.int (S : Nat)), some (.ref l1), some (.int (i : Nat)), some (.ref l3), some (.int (i2 : Nat)), some (.ref l5), y9, y10] ∧ Kp [d, l5] H5 H' ∧ Dr H' d ∧ H' l5 = some (.lst acc5) ∧ DtAll K H' acc5 (cs.map caseD) ∧ cs.length = i4 ∧ ∀ c ∈ cs, c.Ok r S)
        ⟨y9, y10, [], [], rfl, (k6.any.trans k7).mono (by simp), hd7, k7.get nl5 (k6.get0 e5), .nil, rfl, fun _ z => (nomatch z)⟩ (fun i4 σ H8 hi4 pv => ?_) (fun σ H8 pv => ?_)
      · obtain ⟨y9, y10, cs, acc5, rfl, k8, hd8, e8, hacc5, hcl, hcs⟩ := pv
        walk_at "t"
        refine ⟨d, r, rfl, by decide, hr2, hd8, fun c u H9 hok hu k9 hd9 => ?_⟩
        walk_at "t"
        have e9 := k9.get nl5 e8
        refine ⟨ty_lst (SqL.of e9), ?_⟩
        walk_at "t"
        refine ⟨d, r, S, c, u, rfl, hr2, hS1, hd9, hu, Cond.ok_mono (by omega) hok, fun c2 u2 H10 hc2 hu2 k10 hd10 => ?_⟩
        walk_at "t"
        have la := hacc5.length
        rw [List.length_map] at la
        refine i_append (k10.get nl5 e9) (by omega) fun H11 k11 e11 => ?_
        refine ⟨_, _, cs ++ [c2], _, rfl, (k8.trans ((k9.trans k10).mono (by simp))).trans (k11.mono (by simp)), hd10.up k11 (fun z => ndl5 (List.mem_singleton.mp z)), e11, ?_, by rw [List.length_append, List.length_singleton, hcl], okc_snoc (b := 0) hcs hc2⟩
        rw [List.map_append]
        exact (((hacc5.up k9).up k10).up k11).append (.one (hu2.up k11))
      · obtain ⟨y9, y10, cs, acc5, rfl, k8, hd8, e8, hacc5, hcl, hcs⟩ := pv
        walk_at "t"
        have k48 : Kp [d] H4 H8 := (k5.any (N := [d])).fresh k8 fun z hz => by
          simp only [List.mem_cons, List.not_mem_nil, or_false] at hz
          rcases hz with rfl | rfl
          · exact .inl List.mem_cons_self
          · exact .inr n5
        have e83 := k48.get nl3 e4
        refine ⟨ty_lst (SqL.of e83), ?_⟩
        walk_at "t"
        refine i_tupL e8 hacc5 fun u H9 k9 hu => ?_
        walk_at "t"
        have la := hacc3.length
        rw [List.length_map] at la
        refine i_append (k9.get0 e83) (by omega) fun H10 k10 e10 => ?_
        refine ⟨_, _, _, _, row ++ [cs], _, rfl, (k4.trans ((k48.trans k9.any).mono (by simp))).trans (k10.mono (by simp)), (hd8.up0 k9).up k10 (fun z => ndl3 (List.mem_singleton.mp z)), e10, ?_, by rw [List.length_append, List.length_singleton, hrl], fun cs2 h2 => ?_⟩
        · rw [List.map_append]
          exact (((hacc3.up k48).up k9).up k10).append (.one (hu.up k10))
        · rcases List.mem_append.mp h2 with z | z
          · exact hrow cs2 z
          · rw [List.mem_singleton.mp z]; exact ⟨by omega, hcs⟩
    · obtain ⟨y7, y8, y9, y10, row, acc3, rfl, k4, hd4, e4, hacc3, hrl, hrow⟩ := pv
      walk_at "t"
      have k24 : Kp [d] H2 H4 := (k3.any (N := [d])).fresh k4 fun z hz => by
        simp only [List.mem_cons, List.not_mem_nil, or_false] at hz
        rcases hz with rfl | rfl
        · exact .inl List.mem_cons_self
        · exact .inr n3
      have e41 := k24.get nl1 e2
      refine ⟨ty_lst (SqL.of e41), ?_⟩
      walk_at "t"
      refine i_tupL e4 hacc3 fun u H9 k9 hu => ?_
      walk_at "t"
      have la := hacc.length
      rw [List.length_map] at la
      refine i_append (k9.get0 e41) (by omega) fun H10 k10 e10 => ?_
      refine ⟨_, _, _, _, _, _, st ++ [row], _, rfl, (k2.trans ((k24.trans k9.any).mono (by simp))).trans (k10.mono (by simp)), (hd4.up0 k9).up k10 (fun z => ndl1 (List.mem_singleton.mp z)), e10, ?_, by rw [List.length_append, List.length_singleton, hsl], fun row2 h2 => ?_⟩
      · rw [List.map_append]
        exact (((hacc.up k24).up k9).up k10).append (.one (hu.up k10))
      · rcases List.mem_append.mp h2 with z | z
        · exact hst row2 z
        · rw [List.mem_singleton.mp z]; exact ⟨hrl, hrow⟩
  · obtain ⟨y5, y6, y7, y8, y9, y10, st, acc, rfl, k2, hd2, e2, hacc, hsl, hst⟩ := pv
    walk_at "t"
    refine i_tupL e2 hacc fun u H3 k3 hu => ?_
    walk_at "t"
    refine g_tup (K := K) (.cons (.int _) (.cons (.int _) (.one hu))) (by show 3 ≤ 100000; decide) fun y H4 k4 hy => ?_
    have kk : Kp [d] H H2 := (k1.any (N := [d])).fresh k2 fun z hz => by
      simp only [List.mem_cons, List.not_mem_nil, or_false] at hz
      rcases hz with rfl | rfl
      · exact .inl List.mem_cons_self
      · exact .inr n1
    refine q ⟨t, r, st⟩ y H4 ⟨⟨ht1, by show t ≤ 10; omega⟩, hr2, by show 1 ≤ st.length ∧ st.length ≤ 3; omega, fun row h => (hst row h).1, fun row h cs hc => ?_⟩ hy (kk.trans (k3.trans k4).any) (hd2.up0 (k3.trans k4))
    have z := (hst row h).2 cs hc
    show cs.length ≤ 10 ∧ ∀ c ∈ cs, c.Ok r st.length
    rw [hsl]
    exact z
abbrev s_l_with_case : Stmt := topS 24
theorem sc_l_with_case : FnScope ["_law_machine_here", "_law_standing", "_law_tag", "_law_cases", "_law_row"] ["_law_machine_here", "_law_standing", "_law_tag", "_law_cases"] (defScope s_l_with_case) := ⟨rfl, rfl, rfl, by decide +kernel, rfl, by decide +kernel, by decide +kernel⟩
theorem ok_l_with_case (F : FT K mg "_law_with_case" s_l_with_case ["_law_machine_here", "_law_standing", "_law_tag", "_law_cases"]) (T : Tx mg) : FG P w K mg base 1 "_law_with_case" ["_law_machine_here", "_law_standing", "_law_tag", "_law_cases"] (spWithCase K) := by
  refine F.ok sc_l_with_case (fun vs H Q E h => ?_) (fun f cdv A outer s H vs Q E hr h => ?_)
  · obtain ⟨_, _, _, _, _, _, _, _, rfl, _⟩ := h
    rfl
  obtain ⟨m, s0, t, row, cs, a, l, acc, rfl, ha, hrow, hsl, hrl, ht, hl, hacc, q⟩ := h
  have sc := sc_l_with_case
  refine ⟨_, (pss_cons (ps_set (i := 4) sc.nd rfl (.inl rfl) (pe_ix ix_tup (pe_ix ix_tup (pv 0) pe_int (fun _ _ => rfl)) (pv 1) (fun _ _ => rfl)))
    (pss_cons (ps_set (i := 4) sc.nd rfl (.inl rfl) (pe_op op_catA (pe_op op_catA (pe_slice sl_tupA (pv 4) po_none (po_some (pv 2))) (pe_tup (pa_cons (pe_callTy call_tupD (by rfl) T.b_tuple (by decide +kernel) (pa_cons (pv 3) pa_nil)) pa_nil))) (pe_slice sl_tupA (pv 4) (po_some (pe_op op_add (pv 2) pe_int)) po_none)))
    (pss_one (ps_ret (pe_tup (pa_cons (pe_ix ix_tup (pv 0) pe_int (fun _ _ => rfl)) (pa_cons (pe_ix ix_tup (pv 0) pe_int (fun _ _ => rfl)) (pa_cons (pe_op op_catA (pe_op op_catA (pe_slice sl_tupA (pe_ix ix_tup (pv 0) pe_int (fun _ _ => rfl)) po_none (po_some (pv 1))) (pe_tup (pa_cons (pv 4) pa_nil))) (pe_slice sl_tupA (pe_ix ix_tup (pv 0) pe_int (fun _ _ => rfl)) (po_some (pe_op op_add (pv 1) pe_int)) po_none)) pa_nil)))))))), ?_⟩
  refine' i_start (by walk_at "set") ?_
  walk_at "t"
  refine i_ixT ha ix2 fun w1 h1 => ?_
  walk_at "t"
  refine i_ixT h1 (atI_mapn hrow) fun w2 h2 => ?_
  walk_at "t"
  refine i_slTo h2 fun v1 H1 k1 hv1 => ?_
  walk_at "t"
  refine i_tupL (k1.get0 hl) (hacc.up k1) fun v2 H2 k2 hv2 => ?_
  walk_at "t"
  refine g_tup (K := K) (.one hv2) (by show 1 ≤ 100000; decide) fun v3 H3 k3 hv3 => ?_
  have k13 := k2.trans k3
  refine i_cat (hv1.up k13) hv3 (by rw [List.length_take, List.length_map]; show _ + 1 ≤ _; omega) fun v4 H4 k4 hv4 => ?_
  walk_at "t"
  have k04 := (k1.trans k13).trans k4
  refine i_slFrom (k := t + 1) (h2.up k04) fun v5 H5 k5 hv5 => ?_
  refine i_cat (hv4.up k5) hv5 (by rw [List.length_append, List.length_take, List.length_drop, List.length_map]; show _ + 1 + _ ≤ _; omega) fun v6 H6 k6 hv6 => ?_
  walk_at "t"
  have k06 := (k04.trans k5).trans k6
  have ha6 := ha.up k06
  have er : (List.take t (row.map casesD) ++ [casesD cs] ++ List.drop (t + 1) (row.map casesD)) = (row.take t ++ [cs] ++ row.drop (t + 1)).map casesD := by
    rw [List.map_append, List.map_append, List.map_take, List.map_drop]
    rfl
  have hv6 : Dt K H6 v6 (rowD (row.take t ++ [cs] ++ row.drop (t + 1))) := by
    unfold rowD
    rw [← er]
    exact hv6
  refine i_ixTi ha6 ix0 ?_
  walk_at "t"
  refine i_ixTi ha6 ix1 ?_
  walk_at "t"
  refine i_ixT ha6 ix2 fun w3 h3 => ?_
  walk_at "t"
  refine i_slTo h3 fun v7 H7 k7 hv7 => ?_
  walk_at "t"
  refine g_tup (K := K) (.one (hv6.up k7)) (by show 1 ≤ 100000; decide) fun v8 H8 k8 hv8 => ?_
  refine i_cat (hv7.up k8) hv8 (by rw [List.length_take, List.length_map]; show _ + 1 ≤ _; omega) fun v9 H9 k9 hv9 => ?_
  walk_at "t"
  have k69 := (k7.trans k8).trans k9
  refine i_ixT (ha6.up k69) ix2 fun w4 h4 => ?_
  walk_at "t"
  refine i_slFrom (k := s0 + 1) h4 fun v10 H10 k10 hv10 => ?_
  refine i_cat (hv9.up k10) hv10 (by rw [List.length_append, List.length_take, List.length_drop, List.length_map]; show _ + 1 + _ ≤ _; omega) fun v11 H11 k11 hv11 => ?_
  walk_at "t"
  have hv11 : Dt K H11 v11 (stepsD (m.steps.take s0 ++ [row.take t ++ [cs] ++ row.drop (t + 1)] ++ m.steps.drop (s0 + 1))) := by
    unfold stepsD
    rw [List.map_append, List.map_append, List.map_take, List.map_drop]
    exact hv11
  refine g_tup (K := K) (.cons (.int _) (.cons (.int _) (.one hv11))) (by show 3 ≤ 100000; decide) fun y H12 k12 hy => ?_
  exact q y H12 (((k06.trans k69).trans (k10.trans k11)).trans k12) hy
end
/-! ### a checker for written machines -/
def placeOkB (r : Nat) (s : Int) : Bool := decide (s = -1) || (decide (0 ≤ s) && decide (s < r))
def srcOkB (r : Nat) (s : Int) : Bool := decide (s = -1) || decide (s = -2) || (decide (0 ≤ s) && decide (s < r))
theorem placeOkB_ok {r : Nat} {s : Int} (h : placeOkB r s = true) : placeOk r s := by
  unfold placeOkB at h
  simp only [Bool.or_eq_true, Bool.and_eq_true, decide_eq_true_eq] at h
  exact h
theorem srcOkB_ok {r : Nat} {s : Int} (h : srcOkB r s = true) : srcOk r s := by
  unfold srcOkB at h
  simp only [Bool.or_eq_true, Bool.and_eq_true, decide_eq_true_eq] at h
  rcases h with (z | z) | z
  · exact .inl z
  · exact .inr (.inl z)
  · exact .inr (.inr z)
def leafB (r : Nat) : Cond → Bool
  | .tt => true
  | .ff => true
  | .less a b => placeOkB r a && placeOkB r b
  | .same a b => placeOkB r a && placeOkB r b
  | .empty a => placeOkB r a
  | _ => false
theorem leafB_ok {r n : Nat} : ∀ {c : Cond}, leafB r c = true → Cond.ok r (n + 1) c
  | .tt, _ => by rw [Cond.ok]; trivial
  | .ff, _ => by rw [Cond.ok]; trivial
  | .less a b, h => by
    rw [Cond.ok]
    have h := Bool.and_eq_true_iff.mp h
    exact ⟨placeOkB_ok h.1, placeOkB_ok h.2⟩
  | .same a b, h => by
    rw [Cond.ok]
    have h := Bool.and_eq_true_iff.mp h
    exact ⟨placeOkB_ok h.1, placeOkB_ok h.2⟩
  | .empty a, h => by
    rw [Cond.ok]
    exact placeOkB_ok h
  | .not _, h => nomatch h
  | .all _, h => nomatch h
  | .any _, h => nomatch h
def condB (r : Nat) : Cond → Bool
  | .all cs => cs.all (leafB r) && decide (cs.length ≤ 60)
  | .any cs => cs.all (leafB r) && decide (cs.length ≤ 60)
  | c => leafB r c
theorem condB_ok {r : Nat} : ∀ {c : Cond}, condB r c = true → Cond.ok r 3 c
  | .all cs, h => by
    rw [Cond.ok]
    have h := Bool.and_eq_true_iff.mp h
    exact ⟨Cond.okAll_of fun c hc => leafB_ok (List.all_eq_true.mp h.1 c hc), of_decide_eq_true h.2⟩
  | .any cs, h => by
    rw [Cond.ok]
    have h := Bool.and_eq_true_iff.mp h
    exact ⟨Cond.okAll_of fun c hc => leafB_ok (List.all_eq_true.mp h.1 c hc), of_decide_eq_true h.2⟩
  | .tt, h => leafB_ok h
  | .ff, h => leafB_ok h
  | .less _ _, h => leafB_ok h
  | .same _ _, h => leafB_ok h
  | .empty _, h => leafB_ok h
  | .not _, h => nomatch h
def caseB (r S : Nat) (c : Case) : Bool := condB r c.cond && (c.moves.all (srcOkB r) && (decide (c.moves.length = r) && (c.says.all (fun p => srcOkB r p.2) && (decide (c.says.length ≤ 60) && decide (c.next < S)))))
theorem caseB_ok {r S : Nat} {c : Case} (h : caseB r S c = true) : Case.Ok r S c := by
  unfold caseB at h
  simp only [Bool.and_eq_true, decide_eq_true_eq] at h
  obtain ⟨h1, h2, h3, h4, h5, h6⟩ := h
  exact ⟨condB_ok h1, fun s hs => srcOkB_ok (List.all_eq_true.mp h2 s hs), h3, fun p hp => srcOkB_ok (List.all_eq_true.mp h4 p hp), h5, h6⟩
def machB (b : Nat) (m : Mach) : Bool := decide (1 ≤ m.tags ∧ m.tags ≤ b) && (decide (m.regs ≤ 2) && (decide (1 ≤ m.steps.length ∧ m.steps.length ≤ 3) && m.steps.all fun row => decide (row.length = m.tags) && row.all fun cs => decide (cs.length ≤ b) && cs.all (caseB m.regs m.steps.length)))
theorem machB_ok {b : Nat} {m : Mach} (h : machB b m = true) : MkB b m := by
  unfold machB at h
  simp only [Bool.and_eq_true, decide_eq_true_eq, List.all_eq_true] at h
  obtain ⟨h1, h2, h3, h4⟩ := h
  exact ⟨h1, h2, h3, fun row hr => (h4 row hr).1, fun row hr cs hc => ⟨((h4 row hr).2 cs hc).1, fun c hcc => caseB_ok (((h4 row hr).2 cs hc).2 c hcc)⟩⟩
abbrev s_l_shaped_machine : Stmt := topS 23
theorem sc_l_shaped_machine : FnScope ["_law_draws_here", "_law_up", "_law_kind", "_law_top", "_law_low", "_law_first", "_law_second", "_law_between", "_law_wait"] ["_law_draws_here"] (defScope s_l_shaped_machine) := ⟨rfl, rfl, rfl, by decide +kernel, rfl, by decide +kernel, by decide +kernel⟩
def spMach (K : PySem.W.Frag) (b : Nat) : Sp := fun vs H Q _ => ∃ (d : Addr), vs = [.ref d] ∧ Dr H d ∧ ∀ m u H', MkB b m → Dt K H' u (machD m) → Kp [d] H H' → Dr H' d → Q u H'
def shA : List Mach := [
  ⟨1, 1, [[[⟨.any [.empty 0, .less 0 (-1)], [-1], [(0, -1)], 0⟩]]]⟩,
  ⟨1, 2, [[[⟨.all [.less 0 1, .less (-1) 1], [1, -1], [(0, 1)], 0⟩, ⟨.all [.less 1 0, .less 1 (-1)], [1, -1], [(1, 1)], 0⟩, ⟨.tt, [1, -1], [], 0⟩]]]⟩,
  ⟨1, 2, [[[⟨.empty 0, [-1, -1], [(0, -1), (1, -1)], 0⟩, ⟨.less (-1) 0, [-1, 1], [(0, -1), (1, 1)], 0⟩, ⟨.less 1 (-1), [0, -1], [(0, 0), (1, -1)], 0⟩]]]⟩,
  ⟨1, 2, [[[⟨.empty 0, [-1, -2], [(0, -1)], 0⟩, ⟨.less 0 (-1), [-1, 0], [(0, -1), (1, 0)], 0⟩, ⟨.any [.empty 1, .less 1 (-1)], [0, -1], [(0, 0), (1, -1)], 0⟩, ⟨.tt, [0, 1], [(1, 1)], 0⟩]]]⟩,
  ⟨1, 2, [[[⟨.empty 1, [-1, -1], [], 0⟩, ⟨.less 1 (-1), [0, -1], [], 0⟩, ⟨.tt, [-1, -1], [(0, 0)], 0⟩]]]⟩,
  ⟨1, 2, [[[⟨.empty 0, [-1, -2], [], 0⟩, ⟨.less 0 (-1), [0, -1], [], 1⟩, ⟨.tt, [-1, -2], [], 0⟩]], [[⟨.all [.less 0 (-1), .less (-1) 1], [0, -1], [(0, -1)], 1⟩, ⟨.less (-1) 0, [-1, 1], [], 1⟩]]]⟩]
theorem shA_ok : ∀ m ∈ shA, MkB 10 m := by
  intro m hm
  refine machB_ok ?_
  have e : shA.all (machB 10) = true := by decide +kernel
  exact List.all_eq_true.mp e m hm
section
variable {P : Program} {w : World} {K : PySem.W.Frag} {mg : Str → Option Value} {base : Heap}
theorem ok_l_shaped_machine (F : FT K mg "_law_shaped_machine" s_l_shaped_machine ["_law_draws_here"]) (T : Tx mg) (G_l_take : FG P w K mg base 1 "_law_take" ["_law_draws_here", "_law_many_here"] spTake) : FG P w K mg base 2 "_law_shaped_machine" ["_law_draws_here"] (spMach K 10) := by
  refine F.ok sc_l_shaped_machine (fun vs H Q E h => ?_) (fun f cdv A outer s H vs Q E hr h => ?_)
  · obtain ⟨_, rfl, _⟩ := h
    rfl
  obtain ⟨d, rfl, hd, q⟩ := h
  have sc := sc_l_shaped_machine
  refine ⟨_, (pss_cons (ps_set (i := 1) sc.nd rfl (.inl rfl) (pe_tup (pa_cons pe_str (pa_cons pe_int (pa_cons (pe_un un_neg pe_int) pa_nil)))))
    (pss_cons (ps_set (i := 2) sc.nd rfl (.inl rfl) (pe_cg G_l_take hr (by rfl) (pa_cons (pv 0) (pa_cons pe_int pa_nil))))
    (pss_cons (ps_if (pt_cmpR op_eq (pv 2) pe_int (nomark _))
    (pss_one (ps_ret (pe_tup (pa_cons pe_int (pa_cons pe_int (pa_cons (pe_tup (pa_cons (pe_tup (pa_cons (pe_tup (pa_cons (pe_tup (pa_cons (pe_tup (pa_cons pe_str (pa_cons (pe_tup (pa_cons (pe_tup (pa_cons pe_str (pa_cons pe_int pa_nil))) (pa_cons (pv 1) pa_nil))) pa_nil))) (pa_cons (pe_tup (pa_cons (pe_un un_neg pe_int) pa_nil)) (pa_cons (pe_tup (pa_cons (pe_tup (pa_cons pe_int (pa_cons (pe_un un_neg pe_int) pa_nil))) pa_nil)) (pa_cons pe_int pa_nil))))) pa_nil)) pa_nil)) pa_nil)) pa_nil))))))
    pss_nil)
    (pss_cons (ps_if (pt_cmpR op_eq (pv 2) pe_int (nomark _))
    (pss_cons (ps_set (i := 3) sc.nd rfl (.inl rfl) (pe_tup (pa_cons (pe_tup (pa_cons pe_str (pa_cons (pe_tup (pa_cons (pe_tup (pa_cons pe_str (pa_cons pe_int (pa_cons pe_int pa_nil)))) (pa_cons (pe_tup (pa_cons pe_str (pa_cons (pe_un un_neg pe_int) (pa_cons pe_int pa_nil)))) pa_nil))) pa_nil))) (pa_cons (pe_tup (pa_cons pe_int (pa_cons (pe_un un_neg pe_int) pa_nil))) (pa_cons (pe_tup (pa_cons (pe_tup (pa_cons pe_int (pa_cons pe_int pa_nil))) pa_nil)) (pa_cons pe_int pa_nil))))))
    (pss_cons (ps_set (i := 4) sc.nd rfl (.inl rfl) (pe_tup (pa_cons (pe_tup (pa_cons pe_str (pa_cons (pe_tup (pa_cons (pe_tup (pa_cons pe_str (pa_cons pe_int (pa_cons pe_int pa_nil)))) (pa_cons (pe_tup (pa_cons pe_str (pa_cons pe_int (pa_cons (pe_un un_neg pe_int) pa_nil)))) pa_nil))) pa_nil))) (pa_cons (pe_tup (pa_cons pe_int (pa_cons (pe_un un_neg pe_int) pa_nil))) (pa_cons (pe_tup (pa_cons (pe_tup (pa_cons pe_int (pa_cons pe_int pa_nil))) pa_nil)) (pa_cons pe_int pa_nil))))))
    (pss_one (ps_ret (pe_tup (pa_cons pe_int (pa_cons pe_int (pa_cons (pe_tup (pa_cons (pe_tup (pa_cons (pe_tup (pa_cons (pv 3) (pa_cons (pv 4) (pa_cons (pe_tup (pa_cons (pe_tup (pa_cons pe_str pa_nil)) (pa_cons (pe_tup (pa_cons pe_int (pa_cons (pe_un un_neg pe_int) pa_nil))) (pa_cons (pe_tup pa_nil) (pa_cons pe_int pa_nil))))) pa_nil)))) pa_nil)) pa_nil)) pa_nil))))))))
    pss_nil)
    (pss_cons (ps_if (pt_cmpR op_eq (pv 2) pe_int (nomark _))
    (pss_cons (ps_set (i := 5) sc.nd rfl (.inl rfl) (pe_tup (pa_cons (pe_tup (pa_cons pe_str (pa_cons pe_int pa_nil))) (pa_cons (pe_tup (pa_cons (pe_un un_neg pe_int) (pa_cons (pe_un un_neg pe_int) pa_nil))) (pa_cons (pe_tup (pa_cons (pe_tup (pa_cons pe_int (pa_cons (pe_un un_neg pe_int) pa_nil))) (pa_cons (pe_tup (pa_cons pe_int (pa_cons (pe_un un_neg pe_int) pa_nil))) pa_nil))) (pa_cons pe_int pa_nil))))))
    (pss_one (ps_ret (pe_tup (pa_cons pe_int (pa_cons pe_int (pa_cons (pe_tup (pa_cons (pe_tup (pa_cons (pe_tup (pa_cons (pv 5) (pa_cons (pe_tup (pa_cons (pe_tup (pa_cons pe_str (pa_cons (pe_un un_neg pe_int) (pa_cons pe_int pa_nil)))) (pa_cons (pe_tup (pa_cons (pe_un un_neg pe_int) (pa_cons pe_int pa_nil))) (pa_cons (pe_tup (pa_cons (pe_tup (pa_cons pe_int (pa_cons (pe_un un_neg pe_int) pa_nil))) (pa_cons (pe_tup (pa_cons pe_int (pa_cons pe_int pa_nil))) pa_nil))) (pa_cons pe_int pa_nil))))) (pa_cons (pe_tup (pa_cons (pe_tup (pa_cons pe_str (pa_cons pe_int (pa_cons (pe_un un_neg pe_int) pa_nil)))) (pa_cons (pe_tup (pa_cons pe_int (pa_cons (pe_un un_neg pe_int) pa_nil))) (pa_cons (pe_tup (pa_cons (pe_tup (pa_cons pe_int (pa_cons pe_int pa_nil))) (pa_cons (pe_tup (pa_cons pe_int (pa_cons (pe_un un_neg pe_int) pa_nil))) pa_nil))) (pa_cons pe_int pa_nil))))) pa_nil)))) pa_nil)) pa_nil)) pa_nil)))))))
    pss_nil)
    (pss_cons (ps_if (pt_cmpR op_eq (pv 2) pe_int (nomark _))
    (pss_cons (ps_set (i := 5) sc.nd rfl (.inl rfl) (pe_tup (pa_cons (pe_tup (pa_cons pe_str (pa_cons pe_int pa_nil))) (pa_cons (pe_tup (pa_cons (pe_un un_neg pe_int) (pa_cons (pe_un un_neg pe_int) pa_nil))) (pa_cons (pe_tup (pa_cons (pe_tup (pa_cons pe_int (pa_cons (pe_un un_neg pe_int) pa_nil))) pa_nil)) (pa_cons pe_int pa_nil))))))
    (pss_cons (ps_set (i := 6) sc.nd rfl (.inl rfl) (pe_tup (pa_cons (pe_tup (pa_cons pe_str (pa_cons (pe_tup (pa_cons (pe_tup (pa_cons pe_str (pa_cons pe_int pa_nil))) (pa_cons (pe_tup (pa_cons pe_str (pa_cons pe_int (pa_cons (pe_un un_neg pe_int) pa_nil)))) pa_nil))) pa_nil))) (pa_cons (pe_tup (pa_cons pe_int (pa_cons (pe_un un_neg pe_int) pa_nil))) (pa_cons (pe_tup (pa_cons (pe_tup (pa_cons pe_int (pa_cons pe_int pa_nil))) (pa_cons (pe_tup (pa_cons pe_int (pa_cons (pe_un un_neg pe_int) pa_nil))) pa_nil))) (pa_cons pe_int pa_nil))))))
    (pss_one (ps_ret (pe_tup (pa_cons pe_int (pa_cons pe_int (pa_cons (pe_tup (pa_cons (pe_tup (pa_cons (pe_tup (pa_cons (pv 5) (pa_cons (pe_tup (pa_cons (pv 1) (pa_cons (pe_tup (pa_cons (pe_un un_neg pe_int) (pa_cons pe_int pa_nil))) (pa_cons (pe_tup (pa_cons (pe_tup (pa_cons pe_int (pa_cons (pe_un un_neg pe_int) pa_nil))) (pa_cons (pe_tup (pa_cons pe_int (pa_cons pe_int pa_nil))) pa_nil))) (pa_cons pe_int pa_nil))))) (pa_cons (pv 6) (pa_cons (pe_tup (pa_cons (pe_tup (pa_cons pe_str pa_nil)) (pa_cons (pe_tup (pa_cons pe_int (pa_cons pe_int pa_nil))) (pa_cons (pe_tup (pa_cons (pe_tup (pa_cons pe_int (pa_cons pe_int pa_nil))) pa_nil)) (pa_cons pe_int pa_nil))))) pa_nil))))) pa_nil)) pa_nil)) pa_nil))))))))
    pss_nil)
    (pss_cons (ps_if (pt_cmpR op_eq (pv 2) pe_int (nomark _))
    (pss_one (ps_ret (pe_tup (pa_cons pe_int (pa_cons pe_int (pa_cons (pe_tup (pa_cons (pe_tup (pa_cons (pe_tup (pa_cons (pe_tup (pa_cons (pe_tup (pa_cons pe_str (pa_cons pe_int pa_nil))) (pa_cons (pe_tup (pa_cons (pe_un un_neg pe_int) (pa_cons (pe_un un_neg pe_int) pa_nil))) (pa_cons (pe_tup pa_nil) (pa_cons pe_int pa_nil))))) (pa_cons (pe_tup (pa_cons (pe_tup (pa_cons pe_str (pa_cons pe_int (pa_cons (pe_un un_neg pe_int) pa_nil)))) (pa_cons (pe_tup (pa_cons pe_int (pa_cons (pe_un un_neg pe_int) pa_nil))) (pa_cons (pe_tup pa_nil) (pa_cons pe_int pa_nil))))) (pa_cons (pe_tup (pa_cons (pe_tup (pa_cons pe_str pa_nil)) (pa_cons (pe_tup (pa_cons (pe_un un_neg pe_int) (pa_cons (pe_un un_neg pe_int) pa_nil))) (pa_cons (pe_tup (pa_cons (pe_tup (pa_cons pe_int (pa_cons pe_int pa_nil))) pa_nil)) (pa_cons pe_int pa_nil))))) pa_nil)))) pa_nil)) pa_nil)) pa_nil))))))
    pss_nil)
    (pss_cons (ps_set (i := 7) sc.nd rfl (.inl rfl) (pe_tup (pa_cons pe_str (pa_cons (pe_tup (pa_cons (pe_tup (pa_cons pe_str (pa_cons pe_int (pa_cons (pe_un un_neg pe_int) pa_nil)))) (pa_cons (pe_tup (pa_cons pe_str (pa_cons (pe_un un_neg pe_int) (pa_cons pe_int pa_nil)))) pa_nil))) pa_nil))))
    (pss_cons (ps_set (i := 8) sc.nd rfl (.inl rfl) (pe_tup (pa_cons (pe_tup (pa_cons (pe_tup (pa_cons (pe_tup (pa_cons pe_str (pa_cons pe_int pa_nil))) (pa_cons (pe_tup (pa_cons (pe_un un_neg pe_int) (pa_cons (pe_un un_neg pe_int) pa_nil))) (pa_cons (pe_tup pa_nil) (pa_cons pe_int pa_nil))))) (pa_cons (pe_tup (pa_cons (pv 1) (pa_cons (pe_tup (pa_cons pe_int (pa_cons (pe_un un_neg pe_int) pa_nil))) (pa_cons (pe_tup pa_nil) (pa_cons pe_int pa_nil))))) (pa_cons (pe_tup (pa_cons (pe_tup (pa_cons pe_str pa_nil)) (pa_cons (pe_tup (pa_cons (pe_un un_neg pe_int) (pa_cons (pe_un un_neg pe_int) pa_nil))) (pa_cons (pe_tup pa_nil) (pa_cons pe_int pa_nil))))) pa_nil)))) pa_nil)))
    (pss_one (ps_ret (pe_tup (pa_cons pe_int (pa_cons pe_int (pa_cons (pe_tup (pa_cons (pv 8) (pa_cons (pe_tup (pa_cons (pe_tup (pa_cons (pe_tup (pa_cons (pv 7) (pa_cons (pe_tup (pa_cons pe_int (pa_cons (pe_un un_neg pe_int) pa_nil))) (pa_cons (pe_tup (pa_cons (pe_tup (pa_cons pe_int (pa_cons (pe_un un_neg pe_int) pa_nil))) pa_nil)) (pa_cons pe_int pa_nil))))) (pa_cons (pe_tup (pa_cons (pe_tup (pa_cons pe_str (pa_cons (pe_un un_neg pe_int) (pa_cons pe_int pa_nil)))) (pa_cons (pe_tup (pa_cons (pe_un un_neg pe_int) (pa_cons pe_int pa_nil))) (pa_cons (pe_tup pa_nil) (pa_cons pe_int pa_nil))))) pa_nil))) pa_nil)) pa_nil))) pa_nil))))))))))))))), ?_⟩
  refine' i_start (by walk_at "set") ?_
  walk_at "t"
  refine g_tup (K := K) (ds := [.str "less", .int 0, .int (-1)]) (.cons (.str _) (.cons (.int _) (.one (.int _)))) (by decide) fun up H1 k1 hup => ?_
  walk_at "t"
  refine ⟨d, 6, rfl, hd.up0 k1, by decide, fun kind H2 z0 z1 k2 hd2 => ?_⟩
  have hup := hup.up k2
  have q : ∀ (i : Nat) (m : Mach), shA[i]? = some m → ∀ u H', Dt K H' u (machD m) → Kp [] H2 H' → Q u H' := fun i m hm u H' hu k => q m u H' (shA_ok m (List.mem_of_getElem? hm)) hu ((k1.any.trans k2).trans k.any) (hd2.up0 k)
  clear k1 k2 hd hr
  walk_at "t"
  refine ite2 (fun e => ?_) (fun e => ?_)
  · repeat (first | walk_at "rd" | (refine g_tup (K := K) (by walk_at "dp") (by decide) fun _ _ _ _ => ?_))
    exact q 0 _ rfl _ _ (by assumption) (by walk_at "kp")
  walk_at "t"
  refine ite2 (fun e => ?_) (fun e => ?_)
  · repeat (first | walk_at "rd" | (refine g_tup (K := K) (by walk_at "dp") (by decide) fun _ _ _ _ => ?_))
    exact q 1 _ rfl _ _ (by assumption) (by walk_at "kp")
  walk_at "t"
  refine ite2 (fun e => ?_) (fun e => ?_)
  · repeat (first | walk_at "rd" | (refine g_tup (K := K) (by walk_at "dp") (by decide) fun _ _ _ _ => ?_))
    exact q 2 _ rfl _ _ (by assumption) (by walk_at "kp")
  walk_at "t"
  refine ite2 (fun e => ?_) (fun e => ?_)
  · repeat (first | walk_at "rd" | (refine g_tup (K := K) (by walk_at "dp") (by decide) fun _ _ _ _ => ?_))
    exact q 3 _ rfl _ _ (by assumption) (by walk_at "kp")
  walk_at "t"
  refine ite2 (fun e => ?_) (fun e => ?_)
  · repeat (first | walk_at "rd" | (refine g_tup (K := K) (by walk_at "dp") (by decide) fun _ _ _ _ => ?_))
    exact q 4 _ rfl _ _ (by assumption) (by walk_at "kp")
  repeat (first | walk_at "rd" | (refine g_tup (K := K) (by walk_at "dp") (by decide) fun _ _ _ _ => ?_))
  exact q 5 _ rfl _ _ (by assumption) (by walk_at "kp")
end
abbrev s_l_changed : Stmt := topS 25
theorem sc_l_changed : FnScope ["_law_draws_here", "_law_machine_here", "_law_standing", "_law_tag", "_law_cases", "_law_at_here", "_law_kind", "_law_case_here"] ["_law_draws_here", "_law_machine_here"] (defScope s_l_changed) := ⟨rfl, rfl, rfl, by decide +kernel, rfl, by decide +kernel, by decide +kernel⟩
def spChanged (K : PySem.W.Frag) : Sp := fun vs H Q _ => ∃ (d : Addr) (m : Mach) (b : Nat) (a : V), vs = [.ref d, a] ∧ b ≤ 30 ∧ MkB b m ∧ Dr H d ∧ Dt K H a (machD m) ∧ ∀ m' u H', MkB (b + 1) m' → Dt K H' u (machD m') → Kp [d] H H' → Dr H' d → Q u H'
theorem mkb_with {b : Nat} {m : Mach} {s t : Nat} {row : List (List Case)} {cs : List Case} (h : MkB b m) (hr : m.steps[s]? = some row) (ht : t < row.length) (hc : cs.length ≤ b + 1) (ok : ∀ c ∈ cs, c.Ok m.regs m.steps.length) :
    MkB (b + 1) ⟨m.tags, m.regs, m.steps.take s ++ [row.take t ++ [cs] ++ row.drop (t + 1)] ++ m.steps.drop (s + 1)⟩ := by
  have hs : s < m.steps.length := (List.getElem?_eq_some_iff.mp hr).1
  have hrm := List.mem_of_getElem? hr
  have len : (m.steps.take s ++ [row.take t ++ [cs] ++ row.drop (t + 1)] ++ m.steps.drop (s + 1)).length = m.steps.length := by
    rw [List.length_append, List.length_append, List.length_take, List.length_drop, List.length_singleton]
    omega
  have rlen : (row.take t ++ [cs] ++ row.drop (t + 1)).length = row.length := by
    rw [List.length_append, List.length_append, List.length_take, List.length_drop, List.length_singleton]
    omega
  have mem : ∀ r, r ∈ m.steps.take s ++ [row.take t ++ [cs] ++ row.drop (t + 1)] ++ m.steps.drop (s + 1) → r ∈ m.steps ∨ r = row.take t ++ [cs] ++ row.drop (t + 1) := fun r hr => by
    rcases List.mem_append.mp hr with z | z
    · rcases List.mem_append.mp z with z | z
      · exact .inl (List.mem_of_mem_take z)
      · exact .inr (List.mem_singleton.mp z)
    · exact .inl (List.mem_of_mem_drop z)
  have memc : ∀ x, x ∈ row.take t ++ [cs] ++ row.drop (t + 1) → x ∈ row ∨ x = cs := fun r hr => by
    rcases List.mem_append.mp hr with z | z
    · rcases List.mem_append.mp z with z | z
      · exact .inl (List.mem_of_mem_take z)
      · exact .inr (List.mem_singleton.mp z)
    · exact .inl (List.mem_of_mem_drop z)
  refine ⟨⟨h.tags.1, by have := h.tags.2; show m.tags ≤ b + 1; omega⟩, h.regs, by show 1 ≤ (m.steps.take s ++ [row.take t ++ [cs] ++ row.drop (t + 1)] ++ m.steps.drop (s + 1)).length ∧ _ ≤ 3; rw [len]; exact h.num, fun r hr => ?_, fun r hr x hx => ?_⟩
  · rcases mem r hr with z | rfl
    · exact h.rows r z
    · exact rlen.trans (h.rows row hrm)
  · show x.length ≤ b + 1 ∧ ∀ c ∈ x, c.Ok m.regs (m.steps.take s ++ [row.take t ++ [cs] ++ row.drop (t + 1)] ++ m.steps.drop (s + 1)).length
    rw [len]
    have old : ∀ r, r ∈ m.steps → ∀ x ∈ r, x.length ≤ b + 1 ∧ ∀ c ∈ x, c.Ok m.regs m.steps.length := fun r hr x hx => by
      have z := h.css r hr x hx
      exact ⟨by omega, z.2⟩
    rcases mem r hr with z | rfl
    · exact old r z x hx
    · rcases memc x hx with z | rfl
      · exact old row hrm x z
      · exact ⟨hc, ok⟩
theorem dt_erase {K : PySem.W.Frag} {H : Hp} {vs : List V} {cs : List Case} (i : Nat) (h : DtAll K H vs (cs.map caseD)) : DtAll K H (vs.eraseIdx i) ((cs.eraseIdx i).map caseD) := by
  rw [List.eraseIdx_eq_take_drop_succ, List.eraseIdx_eq_take_drop_succ, List.map_append, List.map_take, List.map_drop]
  exact (h.take _).append (h.drop _)
theorem seqIx {n : Nat} {i : Int} (h0 : 0 ≤ i) (h1 : i < n) : seqIndex? i n = some i.toNat := (ixN_seq (by unfold ixN; rw [if_pos h0, if_pos h1])).1
section
variable {P : Program} {w : World} {K : PySem.W.Frag} {mg : Str → Option Value} {base : Heap}
theorem ok_l_changed (F : FT K mg "_law_changed" s_l_changed ["_law_draws_here", "_law_machine_here"]) (T : Tx mg) (G_l_take : FG P w K mg base 1 "_law_take" ["_law_draws_here", "_law_many_here"] spTake) (G_l_condition : FG P w K mg base 3 "_law_condition" ["_law_draws_here", "_law_registers", "_law_depth"] (spCond K 2))
    (G_l_drawn_case : FG P w K mg base 2 "_law_drawn_case" ["_law_draws_here", "_law_registers", "_law_standings", "_law_condition_here"] (spDCase K)) (G_l_with_case : FG P w K mg base 1 "_law_with_case" ["_law_machine_here", "_law_standing", "_law_tag", "_law_cases"] (spWithCase K)) : FG P w K mg base 4 "_law_changed" ["_law_draws_here", "_law_machine_here"] (spChanged K) := by
  have G_l_take := G_l_take.mono (show 1 ≤ 3 by omega)
  have G_l_drawn_case := G_l_drawn_case.mono (show 2 ≤ 3 by omega)
  have G_l_with_case := G_l_with_case.mono (show 1 ≤ 3 by omega)
  refine F.ok sc_l_changed (fun vs H Q E h => ?_) (fun f cdv A outer s H vs Q E hr h => ?_)
  · obtain ⟨_, _, _, _, rfl, _⟩ := h
    rfl
  obtain ⟨d, m, b, a, rfl, hb, mb, hd, ha, q⟩ := h
  have sc := sc_l_changed
  refine ⟨_, (pss_cons (ps_set (i := 2) sc.nd rfl (.inl rfl) (pe_cg G_l_take hr (by rfl) (pa_cons (pv 0) (pa_cons (pe_callB call_lenD (by rfl) T.b_len PySem.boot_len (pa_cons (pe_ix ix_tup (pv 1) pe_int (fun _ _ => rfl)) pa_nil)) pa_nil))))
    (pss_cons (ps_set (i := 3) sc.nd rfl (.inl rfl) (pe_cg G_l_take hr (by rfl) (pa_cons (pv 0) (pa_cons (pe_ix ix_tup (pv 1) pe_int (fun _ _ => rfl)) pa_nil))))
    (pss_cons (ps_set (i := 4) sc.nd rfl (.inl rfl) (pe_callTy call_listD (by rfl) T.b_list (by decide +kernel) (pa_cons (pe_ix ix_tup (pe_ix ix_tup (pe_ix ix_tup (pv 1) pe_int (fun _ _ => rfl)) (pv 2) (fun _ _ => rfl)) (pv 3) (fun _ _ => rfl)) pa_nil)))
    (pss_cons (ps_set (i := 5) sc.nd rfl (.inl rfl) (pe_cg G_l_take hr (by rfl) (pa_cons (pv 0) (pa_cons (pe_op op_add (pe_callB call_lenD (by rfl) T.b_len PySem.boot_len (pa_cons (pv 4) pa_nil)) pe_int) pa_nil))))
    (pss_cons (ps_set (i := 6) sc.nd rfl (.inl rfl) (pe_cg G_l_take hr (by rfl) (pa_cons (pv 0) (pa_cons pe_int pa_nil))))
    (pss_cons (ps_set (i := 7) sc.nd rfl (.inl rfl) (pe_cg G_l_drawn_case hr (by rfl) (pa_cons (pv 0) (pa_cons (pe_ix ix_tup (pv 1) pe_int (fun _ _ => rfl)) (pa_cons (pe_callB call_lenD (by rfl) T.b_len PySem.boot_len (pa_cons (pe_ix ix_tup (pv 1) pe_int (fun _ _ => rfl)) pa_nil)) (pa_cons (pe_cg G_l_condition hr (by rfl) (pa_cons (pv 0) (pa_cons (pe_ix ix_tup (pv 1) pe_int (fun _ _ => rfl)) (pa_cons pe_int pa_nil)))) pa_nil))))))
    (pss_cons (ps_if (PW.pt (pw_or (pt_cmpR op_eq (pv 5) (pe_callB call_lenD (by rfl) T.b_len PySem.boot_len (pa_cons (pv 4) pa_nil)) (nomark _)) (pw_or1 (pt_cmpR op_eq (pv 6) pe_int (nomark _)))))
    (pss_one (ps_expr (pe_bm PySem.F.plainAttrs_list PySem.F.slot_list_insert PySem.F.type_list_insert mt_insert (pv 4) (pa_cons (pv 5) (pa_cons (pv 7) pa_nil)))))
    (pss_one (ps_if (pt_cmpR op_eq (pv 6) pe_int (nomark _))
    (pss_one (ps_expr (pe_bm PySem.F.plainAttrs_list PySem.F.slot_list_pop PySem.F.type_list_pop mt_popAt (pv 4) (pa_cons (pv 5) pa_nil))))
    (pss_one (ps_asg (pe_op op_catA (pe_op op_catA (pe_slice sl_tupA (pe_ix ix_list (pv 4) (pv 5) (fun _ _ => rfl)) po_none (po_some (pe_op op_sub (pv 6) pe_int))) (pe_tup (pa_cons (pe_ix ix_tup (pv 7) (pe_op op_sub (pv 6) pe_int) (fun _ _ => rfl)) pa_nil))) (pe_slice sl_tupA (pe_ix ix_list (pv 4) (pv 5) (fun _ _ => rfl)) (po_some (pv 6)) po_none)) (pg_sub (pv 4) (pv 5) set_list))))))
    (pss_one (ps_ret (pe_cg G_l_with_case hr (by rfl) (pa_cons (pv 1) (pa_cons (pv 2) (pa_cons (pv 3) (pa_cons (pv 4) pa_nil)))))))))))))), ?_⟩
  refine' i_start (by walk_at "set") ?_
  walk_at "t"
  refine i_ixT ha ix2 fun w1 h1 => ?_
  walk_at "t"
  refine i_lenT h1 ?_
  rw [List.length_map]
  walk_at "t"
  refine ⟨d, _, rfl, hd, by have := mb.num.1; omega, fun i1 H1 z0 z1 k1 hd1 => ?_⟩
  obtain ⟨s0, rfl⟩ : ∃ n : Nat, i1 = (n : Int) := ⟨i1.toNat, by omega⟩
  have hs0 : s0 < m.steps.length := by omega
  have ha1 := ha.up k1
  walk_at "t"
  refine i_ixTi ha1 ix0 ?_
  walk_at "t"
  refine ⟨d, _, rfl, hd1, by have := mb.tags.1; omega, fun i2 H2 z2 z3 k2 hd2 => ?_⟩
  obtain ⟨t0, rfl⟩ : ∃ n : Nat, i2 = (n : Int) := ⟨i2.toNat, by omega⟩
  have ht0 : t0 < m.tags := by omega
  have ha2 := ha1.up k2
  obtain ⟨row, hrow⟩ : ∃ row, m.steps[s0]? = some row := ⟨_, List.getElem?_eq_getElem hs0⟩
  have hrm := List.mem_of_getElem? hrow
  have hrl := mb.rows row hrm
  have ht0r : t0 < row.length := by omega
  obtain ⟨cs, hcs⟩ : ∃ cs, row[t0]? = some cs := ⟨_, List.getElem?_eq_getElem ht0r⟩
  have hcsm := mb.css row hrm cs (List.mem_of_getElem? hcs)
  walk_at "t"
  refine i_ixT ha2 ix2 fun w2 h2 => ?_
  walk_at "t"
  refine i_ixT h2 (atI_mapn hrow) fun w3 h3 => ?_
  walk_at "t"
  refine i_ixT h3 (atI_mapn hcs) fun w4 h4 => ?_
  walk_at "t"
  refine i_listT h4 fun lc acc H3 k3 n3 e3 hacc => ?_
  have hd3 := hd2.up0 k3
  have nlc := hd2.ne n3
  have ndl : d ≠ lc := fun z => nlc (by rw [z]; exact List.mem_cons_self)
  have nlc0 : H lc = none := (k1.trans k2).freeM nlc n3
  have la := hacc.length
  rw [List.length_map] at la
  walk_at "t"
  refine i_lenL (SqL.of e3) ?_
  walk_at "t"
  refine ⟨d, _, rfl, hd3, by omega, fun at_ H4 z4 z5 k4 hd4 => ?_⟩
  walk_at "t"
  refine ⟨d, 6, rfl, hd4, by decide, fun kind H5 z6 z7 k5 hd5 => ?_⟩
  have k35 := k4.trans k5
  have ha5 := (ha2.up k3).up k35
  walk_at "t"
  refine i_ixTi ha5 ix1 ?_
  walk_at "t"
  refine i_ixT ha5 ix2 fun w5 h5 => ?_
  walk_at "t"
  refine i_lenT h5 ?_
  rw [List.length_map]
  walk_at "t"
  refine i_ixTi ha5 ix1 ?_
  walk_at "t"
  refine ⟨d, m.regs, rfl, by decide, mb.regs, hd5, fun c u H6 hok hu k6 hd6 => ?_⟩
  walk_at "t"
  refine ⟨d, m.regs, m.steps.length, c, u, rfl, mb.regs, mb.num.1, hd6, hu, Cond.ok_mono (by omega) hok, fun nc un H7 hnc hun k7 hd7 => ?_⟩
  have k37 := (k35.trans k6).trans k7
  have k07 : Kp [d] H H7 := ((k1.trans k2).trans k3.any).trans k37
  have e7 := k37.get nlc e3
  have hacc7 := hacc.up k37
  have ha7 := ha.up k07
  walk_at "sq"
  refine i_seqJ (fun σ' H' => ∃ (cs' : List Case) (acc' : List V), σ' = [some (.ref d), some a, some (.int (s0 : Nat)), some (.int (t0 : Nat)), some (.ref lc), some (.int at_), some (.int kind), some un] ∧ Kp [d, lc] H H' ∧ Dr H' d ∧ H' lc = some (.lst acc') ∧ DtAll K H' acc' (cs'.map caseD) ∧ cs'.length ≤ b + 1 ∧ ∀ c ∈ cs', c.Ok m.regs m.steps.length) (fun σ H' hp => ?_) (fun nx hnx => ?_)
  · obtain ⟨cs', acc', rfl, k8, hd8, e8, hacc8, hcl, hcok⟩ := hp
    walk_at "t"
    refine ⟨m, s0, t0, row, cs', a, lc, acc', rfl, ha.up k8, hrow, by have := mb.num.2; omega, by have := mb.tags.2; omega, ht0r, e8, hacc8, fun u9 H9 k9 hu9 => ?_⟩
    refine q _ u9 H9 (mkb_with mb hrow ht0r hcl hcok) hu9 ?_ (hd8.up0 k9)
    refine (Kp.refl (M := [d])).fresh (k8.trans k9.any) fun x hx => ?_
    rcases List.mem_cons.mp hx with z | z
    · exact .inl (by rw [z]; exact List.mem_cons_self)
    · exact .inr (by rw [List.mem_singleton.mp z]; exact nlc0)
  · walk_at "t"
    refine i_lenL (SqL.of e7) ?_
    walk_at "t"
    have done : ∀ (cs' : List Case) (acc' : List V) (H' : Hp), Kp [lc] H7 H' → H' lc = some (.lst acc') → DtAll K H' acc' (cs'.map caseD) → cs'.length ≤ b + 1 → (∀ c ∈ cs', c.Ok m.regs m.steps.length) → nx [some (.ref d), some a, some (.int (s0 : Nat)), some (.int (t0 : Nat)), some (.ref lc), some (.int at_), some (.int kind), some un] H' := fun cs' acc' H' k e h1 h2 h3 =>
      hnx _ _ ⟨cs', acc', rfl, (k07.mono (by simp)).trans (k.mono (by simp)), hd7.up k (fun z => ndl (List.mem_singleton.mp z)), e, h1, h2, h3⟩
    have ins : ∀ H', Kp [lc] H7 H' → H' lc = some (.lst (acc.take at_.toNat ++ [un] ++ acc.drop at_.toNat)) → nx [some (.ref d), some a, some (.int (s0 : Nat)), some (.int (t0 : Nat)), some (.ref lc), some (.int at_), some (.int kind), some un] H' := fun H' k e => by
      refine done (cs.take at_.toNat ++ [nc] ++ cs.drop at_.toNat) _ H' k e ?_ ?_ fun x hx => ?_
      · rw [List.map_append, List.map_append, List.map_take, List.map_drop]
        exact (((hacc7.up k).take _).append (.one (hun.up k))).append ((hacc7.up k).drop _)
      · rw [List.length_append, List.length_append, List.length_take, List.length_drop, List.length_singleton]
        omega
      · rcases List.mem_append.mp hx with z | z
        · rcases List.mem_append.mp z with z | z
          · exact hcsm.2 x (List.mem_of_mem_take z)
          · rw [List.mem_singleton.mp z]; exact hnc
        · exact hcsm.2 x (List.mem_of_mem_drop z)
    refine ite2 (fun e => ?_) (fun e => ?_)
    · refine ifT rfl ?_
      walk_at "t"
      refine ⟨ty_lst (SqL.of e7), ?_⟩
      walk_at "t"
      exact ⟨lc, acc, at_, un, rfl, rfl, e7, small' (by omega), z4, by omega, ins _ (Kp.wr (by rw [e7]; trivial)) upd_same⟩
    have hat : at_ < (acc.length : Nat) := by
      have z : ¬ at_ = (acc.length : Nat) := fun z => e (decide_eq_true z)
      omega
    have hj : at_.toNat < cs.length := by omega
    walk_at "t"
    refine ite2 (fun e => ?_) (fun e => ?_)
    · walk_at "t"
      refine ⟨ty_lst (SqL.of e7), ?_⟩
      walk_at "t"
      exact ⟨lc, acc, at_, un, rfl, rfl, e7, small' (by omega), z4, by omega, ins _ (Kp.wr (by rw [e7]; trivial)) upd_same⟩
    have kne0 : ¬ kind = 0 := fun z => e (decide_eq_true z)
    walk_at "t"
    refine ite2 (fun e => ?_) (fun e => ?_)
    · walk_at "t"
      refine ⟨ty_lst (SqL.of e7), ?_⟩
      walk_at "t"
      have hja : at_.toNat < acc.length := by omega
      refine ⟨lc, acc, at_, at_.toNat, acc[at_.toNat], rfl, rfl, e7, by omega, by omega, seqIx z4 hat, List.getElem?_eq_getElem hja, ?_⟩
      have k := Kp.wr (H := H7) (p := lc) (o := .lst (acc.eraseIdx at_.toNat)) (by rw [e7]; trivial)
      refine done (cs.eraseIdx at_.toNat) _ _ k upd_same ?_ ?_ fun x hx => hcsm.2 x (List.mem_of_mem_eraseIdx hx)
      · exact dt_erase _ (hacc7.up k)
      · rw [List.length_eraseIdx]
        split <;> omega
    have kne5 : ¬ kind = 5 := fun z => e (decide_eq_true z)
    obtain ⟨x, hx, hxd⟩ := hacc7.get (i := at_.toNat) (d := caseD cs[at_.toNat]) (by rw [List.getElem?_map, List.getElem?_eq_getElem hj]; rfl)
    have okc := hcsm.2 _ (List.getElem_mem hj)
    generalize cs[at_.toNat] = c0 at hxd okc
    have hxa : atI acc at_ = some x := atI_toNat z4 hx
    have put : ∀ (c' : Case) (v : V) (H' : Hp), Kp [] H7 H' → Dt K H' v (caseD c') → c'.Ok m.regs m.steps.length → rSetL (.ref lc) (.int at_) v H' fun H'' => nx [some (.ref d), some a, some (.int (s0 : Nat)), some (.int (t0 : Nat)), some (.ref lc), some (.int at_), some (.int kind), some un] H'' := fun c' v H' k hv ok => by
      refine i_setL2 (k.get0 e7) (j := at_.toNat) (by unfold ixN; rw [if_pos z4, if_pos hat]) fun H8 k8 e8 => ?_
      refine done (cs.set at_.toNat c') _ H8 (k.any.trans k8) e8 ?_ (by rw [List.length_set]; omega) fun y hy => ?_
      · have hja : at_.toNat < acc.length := by omega
        have h8 := (hacc7.up k).up k8
        rw [List.set_eq_take_append_cons_drop, List.set_eq_take_append_cons_drop, if_pos hja, if_pos hj, List.map_append, List.map_cons, List.map_take, List.map_drop]
        exact (h8.take _).append (.cons (hv.up k8) (h8.drop _))
      · rcases List.mem_or_eq_of_mem_set hy with z | rfl
        · exact hcsm.2 y z
        · exact ok
    have k4 : kind = 1 ∨ kind = 2 ∨ kind = 3 ∨ kind = 4 := by omega
    rcases k4 with rfl | rfl | rfl | rfl
    · walk_at "t"
      refine i_ixL (SqL.of e7) hxa ?_
      walk_at "t"
      refine i_slTo (k := 0) hxd fun v1 H8 k8 hv1 => ?_
      walk_at "t"
      refine i_ixT (hun.up k8) ix0 fun v2 hv2 => ?_
      walk_at "t"
      refine g_tup (K := K) (.one hv2) (by show 1 ≤ 100000; decide) fun v3 H9 k9 hv3 => ?_
      refine i_cat (hv1.up k9) hv3 (by simp) fun v4 H10 k10 hv4 => ?_
      walk_at "t"
      have kA := (k8.trans k9).trans k10
      refine i_ixL (SqL.of (kA.get0 e7)) hxa ?_
      walk_at "t"
      refine i_slFrom (k := 1) (hxd.up kA) fun v5 H11 k11 hv5 => ?_
      refine i_cat (hv4.up k11) hv5 (by simp) fun v6 H12 k12 hv6 => ?_
      walk_at "t"
      exact put ⟨nc.cond, c0.moves, c0.says, c0.next⟩ v6 H12 (kA.trans (k11.trans k12)) hv6 ⟨hnc.cond, okc.moves, okc.len, okc.says, okc.few, okc.next⟩
    · walk_at "t"
      refine i_ixL (SqL.of e7) hxa ?_
      walk_at "t"
      refine i_slTo (k := 1) hxd fun v1 H8 k8 hv1 => ?_
      walk_at "t"
      refine i_ixT (hun.up k8) ix1 fun v2 hv2 => ?_
      walk_at "t"
      refine g_tup (K := K) (.one hv2) (by show 1 ≤ 100000; decide) fun v3 H9 k9 hv3 => ?_
      refine i_cat (hv1.up k9) hv3 (by simp) fun v4 H10 k10 hv4 => ?_
      walk_at "t"
      have kA := (k8.trans k9).trans k10
      refine i_ixL (SqL.of (kA.get0 e7)) hxa ?_
      walk_at "t"
      refine i_slFrom (k := 2) (hxd.up kA) fun v5 H11 k11 hv5 => ?_
      refine i_cat (hv4.up k11) hv5 (by simp) fun v6 H12 k12 hv6 => ?_
      walk_at "t"
      exact put ⟨c0.cond, nc.moves, c0.says, c0.next⟩ v6 H12 (kA.trans (k11.trans k12)) hv6 ⟨okc.cond, hnc.moves, hnc.len, okc.says, okc.few, okc.next⟩
    · walk_at "t"
      refine i_ixL (SqL.of e7) hxa ?_
      walk_at "t"
      refine i_slTo (k := 2) hxd fun v1 H8 k8 hv1 => ?_
      walk_at "t"
      refine i_ixT (hun.up k8) ix2 fun v2 hv2 => ?_
      walk_at "t"
      refine g_tup (K := K) (.one hv2) (by show 1 ≤ 100000; decide) fun v3 H9 k9 hv3 => ?_
      refine i_cat (hv1.up k9) hv3 (by simp) fun v4 H10 k10 hv4 => ?_
      walk_at "t"
      have kA := (k8.trans k9).trans k10
      refine i_ixL (SqL.of (kA.get0 e7)) hxa ?_
      walk_at "t"
      refine i_slFrom (k := 3) (hxd.up kA) fun v5 H11 k11 hv5 => ?_
      refine i_cat (hv4.up k11) hv5 (by simp) fun v6 H12 k12 hv6 => ?_
      walk_at "t"
      exact put ⟨c0.cond, c0.moves, nc.says, c0.next⟩ v6 H12 (kA.trans (k11.trans k12)) hv6 ⟨okc.cond, okc.moves, okc.len, hnc.says, hnc.few, okc.next⟩
    · walk_at "t"
      refine i_ixL (SqL.of e7) hxa ?_
      walk_at "t"
      refine i_slTo (k := 3) hxd fun v1 H8 k8 hv1 => ?_
      walk_at "t"
      refine i_ixT (hun.up k8) ix3 fun v2 hv2 => ?_
      walk_at "t"
      refine g_tup (K := K) (.one hv2) (by show 1 ≤ 100000; decide) fun v3 H9 k9 hv3 => ?_
      refine i_cat (hv1.up k9) hv3 (by simp) fun v4 H10 k10 hv4 => ?_
      walk_at "t"
      have kA := (k8.trans k9).trans k10
      refine i_ixL (SqL.of (kA.get0 e7)) hxa ?_
      walk_at "t"
      refine i_slFrom (k := 4) (hxd.up kA) fun v5 H11 k11 hv5 => ?_
      refine i_cat (hv4.up k11) hv5 (by simp) fun v6 H12 k12 hv6 => ?_
      walk_at "t"
      exact put ⟨c0.cond, c0.moves, c0.says, nc.next⟩ v6 H12 (kA.trans (k11.trans k12)) hv6 ⟨okc.cond, okc.moves, okc.len, okc.says, okc.few, hnc.next⟩
end
abbrev s_l_with_tag : Stmt := topS 27
theorem sc_l_with_tag : FnScope ["_law_draws_here", "_law_machine_here", "_law_steps", "_law_row", "_law_condition_here"] ["_law_draws_here", "_law_machine_here"] (defScope s_l_with_tag) := ⟨rfl, rfl, rfl, by decide +kernel, rfl, by decide +kernel, by decide +kernel⟩
abbrev s_l_machine : Stmt := topS 26
theorem sc_l_machine : FnScope ["_law_draws_here", "_law_size", "_law_tags", "_law_machine_here", "_law_k"] ["_law_draws_here"] (defScope s_l_machine) := ⟨rfl, rfl, rfl, by decide +kernel, rfl, by decide +kernel, by decide +kernel⟩
theorem i_pickD {K : PySem.W.Frag} {H : Hp} {Q : VK} {l : Addr} {xs : List V} {ds : List PyData} {i : Int} (h : SqL K H l xs) (hd : DtAll K H xs ds) (h0 : 0 ≤ i) (h1 : i < ds.length) (q : ∀ v d, d ∈ ds → Dt K H v d → Q v H) : rIxL K (.ref l) (.int i) H Q := by
  obtain ⟨d, hdm, e⟩ := atI_ex h0 h1
  have hj : i.toNat < ds.length := by omega
  obtain ⟨v, hv, hvd⟩ := hd.get (List.getElem?_eq_getElem hj)
  exact i_ixL h (atI_toNat h0 hv) (q v _ (List.getElem_mem hj) hvd)
section
variable {P : Program} {w : World} {K : PySem.W.Frag} {mg : Str → Option Value} {base : Heap}
theorem ok_l_with_tag (F : FT K mg "_law_with_tag" s_l_with_tag ["_law_draws_here", "_law_machine_here"]) (T : Tx mg) (G_l_condition : FG P w K mg base 3 "_law_condition" ["_law_draws_here", "_law_registers", "_law_depth"] (spCond K 2))
    (G_l_drawn_case : FG P w K mg base 2 "_law_drawn_case" ["_law_draws_here", "_law_registers", "_law_standings", "_law_condition_here"] (spDCase K)) : FG P w K mg base 4 "_law_with_tag" ["_law_draws_here", "_law_machine_here"] (spChanged K) := by
  have G_l_drawn_case := G_l_drawn_case.mono (show 2 ≤ 3 by omega)
  refine F.ok sc_l_with_tag (fun vs H Q E h => ?_) (fun f cdv A outer s H vs Q E hr h => ?_)
  · obtain ⟨_, _, _, _, rfl, _⟩ := h
    rfl
  obtain ⟨d, m, b, a, rfl, hb, mb, hd, ha, q⟩ := h
  have sc := sc_l_with_tag
  refine ⟨_, (pss_cons (ps_set (i := 2) sc.nd rfl (.inl rfl) (pe_lst pa_nil))
    (pss_cons (ps_for PassesOwn.never rfl (pi_tup (pe_ix ix_tup (pv 1) pe_int (fun _ _ => rfl))) (pg_name (i := 3) sc.nd rfl (.inl rfl))
    (pss_cons (ps_set (i := 4) sc.nd rfl (.inl rfl) (pe_cg G_l_condition hr (by rfl) (pa_cons (pv 0) (pa_cons (pe_ix ix_tup (pv 1) pe_int (fun _ _ => rfl)) (pa_cons pe_int pa_nil)))))
    (pss_one (ps_expr (pe_bm PySem.F.plainAttrs_list PySem.F.slot_list_append PySem.F.type_list_append mt_append (pv 2) (pa_cons (pe_op op_catA (pv 3) (pe_tup (pa_cons (pe_tup (pa_cons (pe_cg G_l_drawn_case hr (by rfl) (pa_cons (pv 0) (pa_cons (pe_ix ix_tup (pv 1) pe_int (fun _ _ => rfl)) (pa_cons (pe_callB call_lenD (by rfl) T.b_len PySem.boot_len (pa_cons (pe_ix ix_tup (pv 1) pe_int (fun _ _ => rfl)) pa_nil)) (pa_cons (pv 4) pa_nil))))) pa_nil)) pa_nil))) pa_nil))))))
    (pss_one (ps_ret (pe_tup (pa_cons (pe_op op_add (pe_ix ix_tup (pv 1) pe_int (fun _ _ => rfl)) pe_int) (pa_cons (pe_ix ix_tup (pv 1) pe_int (fun _ _ => rfl)) (pa_cons (pe_callTy call_tupD (by rfl) T.b_tuple (by decide +kernel) (pa_cons (pv 2) pa_nil)) pa_nil)))))))), ?_⟩
  refine' i_start (by walk_at "set") ?_
  walk_at "t"
  refine g_lst (Nat.zero_le _) fun l1 H1 k1 n1 e1 => ?_
  walk_at "t"
  have hd1 := hd.up0 k1
  have nl1 := hd.ne n1
  have ndl1 : d ≠ l1 := fun z => nl1 (by rw [z]; exact List.mem_cons_self)
  have ha1 := ha.up k1
  refine i_ixT ha1 ix2 fun w1 h1 => ?_
  refine go_forT (M := [d, l1]) h1 (fun i σ H' => Kp [d, l1] H1 H' ∧ ∃ (y3 y4 : Option V) (st : List (List (List Case))) (acc : List V), σ = [some (.ref d), some a, some (.ref l1), y3, y4] ∧ Dr H' d ∧ H' l1 = some (.lst acc) ∧ DtAll K H' acc (st.map rowD) ∧ st.length = i ∧
    ∀ row ∈ st, row.length = m.tags + 1 ∧ ∀ cs ∈ row, cs.length ≤ b + 1 ∧ ∀ c ∈ cs, c.Ok m.regs m.steps.length) ⟨Kp.refl, none, none, [], [], rfl, hd1, e1, .nil, rfl, fun _ z => (nomatch z)⟩ (fun i σ H' p => p.1) (fun i dd x σ H2 hi pv hx => ?_) (fun σ H2 pv => ?_)
  · obtain ⟨k2, y3, y4, st, acc, rfl, hd2, e2, hacc, hsl, hst⟩ := pv
    rw [List.getElem?_map] at hi
    obtain ⟨row, hrow, rfl⟩ := Option.map_eq_some_iff.mp hi
    have hrm := List.mem_of_getElem? hrow
    have hin : i < m.steps.length := (List.getElem?_eq_some_iff.mp hrow).1
    have m3 := mb.num.2
    have ha2 := ha1.up k2
    walk_at "t"
    refine i_ixTi ha2 ix1 ?_
    walk_at "t"
    refine ⟨d, m.regs, rfl, by decide, mb.regs, hd2, fun c u H3 hok hu k3 hd3 => ?_⟩
    have e3 := k3.get nl1 e2
    have ha3 := ha2.up k3
    walk_at "t"
    refine ⟨ty_lst (SqL.of e3), ?_⟩
    walk_at "t"
    refine i_ixTi ha3 ix1 ?_
    walk_at "t"
    refine i_ixT ha3 ix2 fun w2 h2 => ?_
    walk_at "t"
    refine i_lenT h2 ?_
    rw [List.length_map]
    walk_at "t"
    refine ⟨d, m.regs, m.steps.length, c, u, rfl, mb.regs, mb.num.1, hd3, hu, Cond.ok_mono (by omega) hok, fun nc un H4 hnc hun k4 hd4 => ?_⟩
    walk_at "t"
    refine g_tup (K := K) (.one hun) (by show 1 ≤ 100000; decide) fun v1 H5 k5 hv1 => ?_
    walk_at "t"
    refine g_tup (K := K) (.one hv1) (by show 1 ≤ 100000; decide) fun v2 H6 k6 hv2 => ?_
    have k36 := (k4.trans k5.any).trans k6.any
    have hrl := mb.rows row hrm
    have ht := mb.tags.2
    refine i_cat ((hx.up k3).up k36) hv2 (by rw [List.length_map]; show _ + 1 ≤ _; omega) fun v3 H7 k7 hv3 => ?_
    walk_at "t"
    have k27 : Kp [d] H2 H7 := (k3.trans k36).trans k7.any
    have la := hacc.length
    rw [List.length_map] at la
    refine i_append (k27.get nl1 e2) (by omega) fun H8 k8 e8 => ?_
    refine ⟨(k2.trans (k27.mono (by simp))).trans (k8.mono (by simp)), _, _, st ++ [row ++ [[nc]]], _, rfl, (((hd4.up0 k5).up0 k6).up0 k7).up k8 (fun z => ndl1 (List.mem_singleton.mp z)), e8, ?_, by rw [List.length_append, List.length_singleton, hsl], fun r hr => ?_⟩
    · rw [List.map_append]
      refine ((hacc.up k27).up k8).append (.one ?_)
      show Dt K H8 v3 (rowD (row ++ [[nc]]))
      unfold rowD
      rw [List.map_append]
      exact hv3.up k8
    · rcases List.mem_append.mp hr with z | z
      · exact hst r z
      · rw [List.mem_singleton.mp z]
        refine ⟨by rw [List.length_append, hrl]; rfl, fun cs hcs => ?_⟩
        rcases List.mem_append.mp hcs with z | z
        · have y := mb.css row hrm cs z
          exact ⟨by omega, y.2⟩
        · rw [List.mem_singleton.mp z]
          exact ⟨by show 1 ≤ b + 1; omega, fun c hc => by rw [List.mem_singleton.mp hc]; exact hnc⟩
  · obtain ⟨k2, y3, y4, st, acc, rfl, hd2, e2, hacc, hsl, hst⟩ := pv
    rw [List.length_map] at hsl
    have ha2 := ha1.up k2
    walk_at "t"
    refine i_ixTi ha2 ix0 ?_
    walk_at "t"
    refine i_ixTi ha2 ix1 ?_
    walk_at "t"
    refine i_tupL e2 hacc fun u H3 k3 hu => ?_
    walk_at "t"
    refine g_tup (K := K) (.cons (.int _) (.cons (.int _) (.one hu))) (by show 3 ≤ 100000; decide) fun y H4 k4 hy => ?_
    have kk : Kp [d] H H2 := (k1.any (N := [d])).fresh k2 fun z hz => by
      simp only [List.mem_cons, List.not_mem_nil, or_false] at hz
      rcases hz with rfl | rfl
      · exact .inl List.mem_cons_self
      · exact .inr n1
    refine q ⟨m.tags + 1, m.regs, st⟩ y H4 ⟨⟨by show 1 ≤ m.tags + 1; omega, by have := mb.tags.2; show m.tags + 1 ≤ b + 1; omega⟩, mb.regs, by show 1 ≤ st.length ∧ st.length ≤ 3; rw [hsl]; exact mb.num, fun row h => (hst row h).1, fun row h cs hc => ?_⟩ hy (kk.trans (k3.trans k4).any) (hd2.up0 (k3.trans k4))
    have z := (hst row h).2 cs hc
    show cs.length ≤ b + 1 ∧ ∀ c ∈ cs, c.Ok m.regs st.length
    rw [hsl]
    exact z
theorem ok_l_machine (F : FT K mg "_law_machine" s_l_machine ["_law_draws_here"]) (T : Tx mg) (G_l_take : FG P w K mg base 1 "_law_take" ["_law_draws_here", "_law_many_here"] spTake) (G_l_drawn_machine : FG P w K mg base 4 "_law_drawn_machine" ["_law_draws_here", "_law_tags", "_law_registers", "_law_standings"] (spDMach K))
    (G_l_shaped_machine : FG P w K mg base 2 "_law_shaped_machine" ["_law_draws_here"] (spMach K 10)) (G_l_changed : FG P w K mg base 4 "_law_changed" ["_law_draws_here", "_law_machine_here"] (spChanged K)) (G_l_with_tag : FG P w K mg base 4 "_law_with_tag" ["_law_draws_here", "_law_machine_here"] (spChanged K)) :
    FG P w K mg base 5 "_law_machine" ["_law_draws_here"] (spMach K 20) := by
  have G_l_take := G_l_take.mono (show 1 ≤ 4 by omega)
  have G_l_shaped_machine := G_l_shaped_machine.mono (show 2 ≤ 4 by omega)
  refine F.ok sc_l_machine (fun vs H Q E h => ?_) (fun f cdv A outer s H vs Q E hr h => ?_)
  · obtain ⟨_, rfl, _⟩ := h
    rfl
  obtain ⟨d, rfl, hd, q⟩ := h
  have sc := sc_l_machine
  refine ⟨_, (pss_cons (ps_if (pt_cmpR op_eq (pe_cg G_l_take hr (by rfl) (pa_cons (pv 0) (pa_cons pe_int pa_nil))) pe_int (nomark _))
    (pss_cons (ps_set (i := 1) sc.nd rfl (.inl rfl) (pe_ix ix_list (pe_lst (pa_cons (pe_tup (pa_cons pe_int (pa_cons pe_int pa_nil))) (pa_cons (pe_tup (pa_cons pe_int (pa_cons pe_int pa_nil))) (pa_cons (pe_tup (pa_cons pe_int (pa_cons pe_int pa_nil))) (pa_cons (pe_tup (pa_cons pe_int (pa_cons pe_int pa_nil))) pa_nil))))) (pe_cg G_l_take hr (by rfl) (pa_cons (pv 0) (pa_cons pe_int pa_nil))) (fun _ _ => rfl)))
    (pss_one (ps_ret (pe_cg G_l_drawn_machine hr (by rfl) (pa_cons (pv 0) (pa_cons (pe_op op_add pe_int (pe_cg G_l_take hr (by rfl) (pa_cons (pv 0) (pa_cons pe_int pa_nil)))) (pa_cons (pe_ix ix_tup (pv 1) pe_int (fun _ _ => rfl)) (pa_cons (pe_ix ix_tup (pv 1) pe_int (fun _ _ => rfl)) pa_nil))))))))
    pss_nil)
    (pss_cons (ps_if (pt_cmpR op_eq (pe_cg G_l_take hr (by rfl) (pa_cons (pv 0) (pa_cons pe_int pa_nil))) pe_int (nomark _))
    (pss_cons (ps_set (i := 1) sc.nd rfl (.inl rfl) (pe_ix ix_list (pe_lst (pa_cons (pe_tup (pa_cons pe_int (pa_cons pe_int pa_nil))) (pa_cons (pe_tup (pa_cons pe_int (pa_cons pe_int pa_nil))) (pa_cons (pe_tup (pa_cons pe_int (pa_cons pe_int pa_nil))) (pa_cons (pe_tup (pa_cons pe_int (pa_cons pe_int pa_nil))) (pa_cons (pe_tup (pa_cons pe_int (pa_cons pe_int pa_nil))) (pa_cons (pe_tup (pa_cons pe_int (pa_cons pe_int pa_nil))) (pa_cons (pe_tup (pa_cons pe_int (pa_cons pe_int pa_nil))) pa_nil)))))))) (pe_cg G_l_take hr (by rfl) (pa_cons (pv 0) (pa_cons pe_int pa_nil))) (fun _ _ => rfl)))
    (pss_cons (ps_set (i := 2) sc.nd rfl (.inl rfl) pe_int)
    (pss_cons (ps_if (pt_cmpR op_lt (pe_ix ix_tup (pv 1) pe_int (fun _ _ => rfl)) pe_int (nomark _))
    (pss_one (ps_set (i := 2) sc.nd rfl (.inl rfl) (pe_op op_add pe_int (pe_op op_fdiv (pe_cg G_l_take hr (by rfl) (pa_cons (pv 0) (pa_cons pe_int pa_nil))) pe_int))))
    pss_nil)
    (pss_one (ps_ret (pe_cg G_l_drawn_machine hr (by rfl) (pa_cons (pv 0) (pa_cons (pv 2) (pa_cons (pe_ix ix_tup (pv 1) pe_int (fun _ _ => rfl)) (pa_cons (pe_ix ix_tup (pv 1) pe_int (fun _ _ => rfl)) pa_nil))))))))))
    pss_nil)
    (pss_cons (ps_set (i := 3) sc.nd rfl (.inl rfl) (pe_cg G_l_shaped_machine hr (by rfl) (pa_cons (pv 0) pa_nil)))
    (pss_cons (ps_for PassesOwn.never rfl (pi_range1 (by rfl) T.b_range (pa_cons (pe_cg G_l_take hr (by rfl) (pa_cons (pv 0) (pa_cons pe_int pa_nil))) pa_nil)) (pg_name (i := 4) sc.nd rfl (.inl rfl))
    (pss_one (ps_set (i := 3) sc.nd rfl (.inl rfl) (pe_cg G_l_changed hr (by rfl) (pa_cons (pv 0) (pa_cons (pv 3) pa_nil))))))
    (pss_cons (ps_if (pt_cmpR op_eq (pe_cg G_l_take hr (by rfl) (pa_cons (pv 0) (pa_cons pe_int pa_nil))) pe_int (nomark _))
    (pss_one (ps_set (i := 3) sc.nd rfl (.inl rfl) (pe_cg G_l_with_tag hr (by rfl) (pa_cons (pv 0) (pa_cons (pv 3) pa_nil)))))
    pss_nil)
    (pss_one (ps_ret (pv 3)))))))), ?_⟩
  refine' i_start (by walk_at "set") ?_
  walk_at "t"
  refine ⟨d, 10, rfl, hd, by decide, fun i1 H1 z0 z1 k1 hd1 => ?_⟩
  walk_at "t"
  refine ite2 (fun e => ?_) (fun e => ?_)
  · repeat (first | walk_at "rd" | (refine g_tup (K := K) (by walk_at "dp") (by decide) fun _ _ _ _ => ?_))
    refine g_lst (by show 4 ≤ 100000; decide) fun l2 H2 k2 n2 e2 => ?_
    have nl2 := (hd1.up0 (by walk_at "kp")).ne n2
    obtain ⟨xs, e2, hD⟩ : ∃ xs, H2 l2 = some (.lst xs) ∧ DtAll K H2 xs [.tuple [.int 0, .int 2], .tuple [.int 0, .int 3], .tuple [.int 1, .int 1], .tuple [.int 1, .int 1]] := ⟨_, e2, by walk_at "dp"⟩
    have kA : Kp [] H1 H2 := by walk_at "kp"
    walk_at "t"
    refine ⟨d, 4, rfl, hd1.up0 kA, by decide, fun i2 H3 z2 z3 k3 hd3 => ?_⟩
    refine i_pickD (SqL.of (k3.get nl2 e2)) (hD.up k3) z2 z3 fun v dd hm hv => ?_
    obtain ⟨r, S, rfl, hr2, hS1, hS3⟩ : ∃ r S : Nat, dd = .tuple [.int r, .int S] ∧ r ≤ 2 ∧ 1 ≤ S ∧ S ≤ 3 := by
      simp only [List.mem_cons, List.not_mem_nil, or_false] at hm
      rcases hm with rfl | rfl | rfl | rfl
      · exact ⟨0, 2, rfl, by decide, by decide, by decide⟩
      · exact ⟨0, 3, rfl, by decide, by decide, by decide⟩
      · exact ⟨1, 1, rfl, by decide, by decide, by decide⟩
      · exact ⟨1, 1, rfl, by decide, by decide, by decide⟩
    have k03 : Kp [d] H H3 := (k1.trans kA.any).trans k3
    walk_at "t"
    refine ⟨d, 4, rfl, hd3, by decide, fun i3 H4 z4 z5 k4 hd4 => ?_⟩
    walk_at "t"
    have hv4 := hv.up k4
    refine i_ixTi hv4 ix0 ?_
    walk_at "t"
    refine i_ixTi hv4 ix1 ?_
    walk_at "t"
    obtain ⟨n, rfl⟩ : ∃ n : Nat, i3 = (n : Int) := ⟨i3.toNat, by omega⟩
    exact ⟨d, 3 + n, r, S, by rw [Int.natCast_add]; rfl, by omega, by omega, hr2, hS1, hS3, hd4, fun m u H5 mb hu k5 hd5 => q m u H5 (mb.mono (by decide)) hu ((k03.trans k4).trans k5) hd5⟩
  walk_at "t"
  refine ⟨d, 3, rfl, hd1, by decide, fun i2 H2 z2 z3 k2 hd2 => ?_⟩
  have k02 := k1.trans k2
  clear k1 k2
  walk_at "t"
  refine ite2 (fun e => ?_) (fun e => ?_)
  · repeat (first | walk_at "rd" | (refine g_tup (K := K) (by walk_at "dp") (by decide) fun _ _ _ _ => ?_))
    refine g_lst (by show 7 ≤ 100000; decide) fun l3 H3 k3 n3 e3 => ?_
    have nl3 := (hd2.up0 (by walk_at "kp")).ne n3
    obtain ⟨xs, e3, hD⟩ : ∃ xs, H3 l3 = some (.lst xs) ∧ DtAll K H3 xs [.tuple [.int 0, .int 2], .tuple [.int 1, .int 1], .tuple [.int 1, .int 2], .tuple [.int 1, .int 3], .tuple [.int 2, .int 1], .tuple [.int 2, .int 1], .tuple [.int 2, .int 1]] := ⟨_, e3, by walk_at "dp"⟩
    have kA : Kp [] H2 H3 := by walk_at "kp"
    walk_at "t"
    refine ⟨d, 7, rfl, hd2.up0 kA, by decide, fun i3 H4 z4 z5 k4 hd4 => ?_⟩
    refine i_pickD (SqL.of (k4.get nl3 e3)) (hD.up k4) z4 z5 fun v dd hm hv => ?_
    obtain ⟨r, S, rfl, hr2, hS1, hS3⟩ : ∃ r S : Nat, dd = .tuple [.int r, .int S] ∧ r ≤ 2 ∧ 1 ≤ S ∧ S ≤ 3 := by
      simp only [List.mem_cons, List.not_mem_nil, or_false] at hm
      rcases hm with rfl | rfl | rfl | rfl | rfl | rfl | rfl
      · exact ⟨0, 2, rfl, by decide, by decide, by decide⟩
      · exact ⟨1, 1, rfl, by decide, by decide, by decide⟩
      · exact ⟨1, 2, rfl, by decide, by decide, by decide⟩
      · exact ⟨1, 3, rfl, by decide, by decide, by decide⟩
      · exact ⟨2, 1, rfl, by decide, by decide, by decide⟩
      · exact ⟨2, 1, rfl, by decide, by decide, by decide⟩
      · exact ⟨2, 1, rfl, by decide, by decide, by decide⟩
    have k04 : Kp [d] H H4 := (k02.trans kA.any).trans k4
    walk_at "u"
    walk_at "one"
    walk_at "sq"
    refine i_seqJ (fun σ' H' => ∃ (t : Nat), σ' = [some (.ref d), some v, some (.int (t : Nat)), none, none] ∧ 1 ≤ t ∧ t ≤ 8 ∧ Kp [d] H4 H' ∧ Dr H' d) (fun σ H5 hp => ?_) (fun nx hnx => ?_)
    · obtain ⟨t, rfl, ht1, ht8, k5, hd5⟩ := hp
      have hv5 := hv.up k5
      walk_at "t"
      refine i_ixTi hv5 ix0 ?_
      walk_at "t"
      refine i_ixTi hv5 ix1 ?_
      exact ⟨d, t, r, S, rfl, ht1, ht8, hr2, hS1, hS3, hd5, fun m u H6 mb hu k6 hd6 => q m u H6 (mb.mono (by decide)) hu ((k04.trans k5).trans k6) hd6⟩
    · walk_at "t"
      refine i_ixTi hv ix0 ?_
      walk_at "t"
      refine ite2 (fun e => ?_) (fun e => ?_)
      · walk_at "t"
        refine ⟨d, 4, rfl, hd4, by decide, fun i5 H5 y0 y1 k5 hd5 => ?_⟩
        walk_at "t"
        refine i_I ⟨by decide, by decide⟩ ?_
        walk_at "t"
        obtain ⟨n, hn, hn2⟩ : ∃ n : Nat, i5 / 3 = (n : Int) ∧ n ≤ 1 := ⟨(i5 / 3).toNat, by omega, by omega⟩
        rw [hn]
        refine hnx _ _ ⟨1 + n, ?_, by omega, by omega, k5, hd5⟩
        rw [Int.natCast_add]
        rfl
      · walk_at "t"
        exact hnx _ _ ⟨1, rfl, by decide, by decide, Kp.refl, hd4⟩
  walk_at "t"
  refine ⟨d, rfl, hd2, fun m1 u1 H3 mb1 hu1 k3 hd3 => ?_⟩
  walk_at "t"
  refine ⟨d, 3, rfl, hd3, by decide, fun i3 H4 z4 z5 k4 hd4 => ?_⟩
  obtain ⟨n, rfl⟩ : ∃ n : Nat, i3 = (n : Int) := ⟨i3.toNat, by omega⟩
  refine go_forR (k := n) rfl (by omega) (fun i σ H' => ∃ (y4 : Option V) (m : Mach) (u : V), σ = [some (.ref d), none, none, some u, y4] ∧ MkB (10 + i) m ∧ Dt K H' u (machD m) ∧ Kp [d] H H' ∧ Dr H' d) ⟨none, m1, u1, rfl, mb1, hu1.up k4, (k02.trans k3).trans k4, hd4⟩ (fun i σ H5 hi pv => ?_) (fun σ H5 pv => ?_)
  · obtain ⟨y4, m, u, rfl, mb, hu, k5, hd5⟩ := pv
    walk_at "t"
    exact ⟨d, m, 10 + i, u, rfl, by omega, mb, hd5, hu, fun m' u' H6 mb' hu' k6 hd6 => ⟨_, m', u', rfl, mb', hu', k5.trans k6, hd6⟩⟩
  · obtain ⟨y4, m, u, rfl, mb, hu, k5, hd5⟩ := pv
    walk_at "t"
    refine ⟨d, 8, rfl, hd5, by decide, fun i6 H6 z6 z7 k6 hd6 => ?_⟩
    walk_at "t"
    refine ite2 (fun e => ?_) (fun e => ?_)
    · walk_at "t"
      refine ⟨d, m, 10 + n, u, rfl, by omega, mb, hd6, hu.up k6, fun m' u' H7 mb' hu' k7 hd7 => ?_⟩
      walk_at "t"
      exact q m' u' H7 (mb'.mono (by omega)) hu' ((k5.trans k6).trans k7) hd7
    · walk_at "t"
      exact q m u H6 (mb.mono (by omega)) (hu.up k6) (k5.trans k6) hd6
end
abbrev s_l_place : Stmt := topS 39
theorem sc_l_place : FnScope ["_law_place_here", "_law_places"] ["_law_place_here", "_law_places"] (defScope s_l_place) := ⟨rfl, rfl, rfl, by decide +kernel, rfl, by decide +kernel, by decide +kernel⟩
abbrev s_l_renamed_condition : Stmt := topS 38
theorem sc_l_renamed_condition : FnScope ["_law_condition_here", "_law_places", "_law_kind", "_law_place_here", "_law_part"] ["_law_condition_here", "_law_places"] (defScope s_l_renamed_condition) := ⟨rfl, rfl, rfl, by decide +kernel, rfl, by decide +kernel, by decide +kernel⟩
def spPlace (K : PySem.W.Frag) : Sp := fun vs H Q _ => ∃ (r : Nat) (x : Int) (l : Addr), vs = [.int x, .ref l] ∧ H l = some (.lst (intsN r)) ∧ srcOk r x ∧ ∀ H', Kp [] H H' → Q (.int x) H'
def spRen (K : PySem.W.Frag) (n : Nat) : Sp := fun vs H Q _ => ∃ (r : Nat) (c : Cond) (a : V) (l : Addr), vs = [a, .ref l] ∧ Dt K H a (condD c) ∧ Cond.ok r n c ∧ H l = some (.lst (intsN r)) ∧ ∀ u H', Kp [] H H' → Dt K H' u (condD c) → Q u H'
theorem intsN_at {n : Nat} {r : Int} (h0 : 0 ≤ r) (h : r < n) : atI (intsN n) r = some (.int r) := by
  refine atI_toNat h0 ?_
  unfold intsN
  have hj : r.toNat < n := by omega
  rw [List.getElem?_map, List.getElem?_range hj]
  show some (V.int ((r.toNat : Nat) : Int)) = _
  rw [Int.toNat_of_nonneg h0]
section
variable {P : Program} {w : World} {K : PySem.W.Frag} {mg : Str → Option Value} {base : Heap}
theorem ok_l_place (F : FT K mg "_law_place" s_l_place ["_law_place_here", "_law_places"]) (T : Tx mg) : FG P w K mg base 1 "_law_place" ["_law_place_here", "_law_places"] (spPlace K) := by
  refine F.ok sc_l_place (fun vs H Q E h => ?_) (fun f cdv A outer s H vs Q E hr h => ?_)
  · obtain ⟨_, _, _, rfl, _⟩ := h
    rfl
  obtain ⟨r, x, l, rfl, hl, hx, q⟩ := h
  have sc := sc_l_place
  refine ⟨_, (pss_cons (ps_if (pt_cmpR op_lt (pv 0) pe_int (nomark _))
    (pss_one (ps_ret (pv 0)))
    pss_nil)
    (pss_one (ps_ret (pe_ix ix_list (pv 1) (pv 0) (fun _ _ => rfl))))), ?_⟩
  refine' i_start (by walk_at "set") ?_
  walk_at "t"
  refine ite2 (fun e => ?_) (fun e => ?_)
  · walk_at "t"
    exact q H Kp.refl
  · walk_at "t"
    have z : ¬ x < 0 := fun z => e (decide_eq_true z)
    have h : 0 ≤ x ∧ x < r := by
      rcases hx with y | y | y
      · omega
      · omega
      · exact y
    exact i_ixL (SqL.of hl) (intsN_at h.1 h.2) (q H Kp.refl)
theorem ok_l_ren_step {n : Nat} (F : FT K mg "_law_renamed_condition" s_l_renamed_condition ["_law_condition_here", "_law_places"]) (T : Tx mg) (G_l_place : FG P w K mg base (n + 1) "_law_place" ["_law_place_here", "_law_places"] (spPlace K))
    (G_l_renamed_condition : FG P w K mg base (n + 1) "_law_renamed_condition" ["_law_condition_here", "_law_places"] (spRen K n)) : FG P w K mg base (n + 2) "_law_renamed_condition" ["_law_condition_here", "_law_places"] (spRen K (n + 1)) := by
  refine F.ok sc_l_renamed_condition (fun vs H Q E h => ?_) (fun f cdv A outer s H vs Q E hr h => ?_)
  · obtain ⟨_, _, _, _, rfl, _⟩ := h
    rfl
  obtain ⟨r, c, a, l, rfl, ha, hok, hl, q⟩ := h
  have sc := sc_l_renamed_condition
  refine ⟨_, (pss_cons (ps_set (i := 2) sc.nd rfl (.inl rfl) (pe_ix ix_tup (pv 0) pe_int (fun _ _ => rfl)))
    (pss_cons (ps_if (pt_cmpR op_eq (pv 2) pe_str (nomark _))
    (pss_one (ps_ret (pe_tup (pa_cons (pv 2) (pa_cons (pe_cg G_l_renamed_condition hr (by rfl) (pa_cons (pe_ix ix_tup (pv 0) pe_int (fun _ _ => rfl)) (pa_cons (pv 1) pa_nil))) pa_nil)))))
    pss_nil)
    (pss_cons (ps_if (PW.pt (pw_or (pt_cmpR op_eq (pv 2) pe_str (nomark _)) (pw_or1 (pt_cmpR op_eq (pv 2) pe_str (nomark _)))))
    (pss_one (ps_ret (pe_tup (pa_cons (pv 2) (pa_cons (pe_callTy call_tupD (by rfl) T.b_tuple (by decide +kernel) (pa_cons (pe_lc (te := (tCall _ [] E0 (tCons (tVar 4) (tCons (tVar 1) tNil)))) (own := [("_law_part", 4)]) rfl sc.nd (pi_tup (pe_ix ix_tup (pv 0) pe_int (fun _ _ => rfl))) (blkOk_by (own := [("_law_part", 4)]) (N := ["_law_condition_here", "_law_places", "_law_kind", "_law_place_here", "_law_part"]) (sc := defScope s_l_renamed_condition) (by decide +kernel)) (fun _ _ _ _ _ => (pg_name (i := 4) sc.nd rfl (.inl rfl))) (fun _ _ _ _ _ => pts_nil) (fun _ _ _ _ _ => (pe_cg G_l_renamed_condition hr (by rfl) (pa_cons (pv 4) (pa_cons (pv 1) pa_nil))))) pa_nil)) pa_nil)))))
    pss_nil)
    (pss_one (ps_ret (pe_op op_catA (pe_tup (pa_cons (pv 2) pa_nil)) (pe_callTy call_tupD (by rfl) T.b_tuple (by decide +kernel) (pa_cons (pe_lc (te := (tCall _ [] E0 (tCons (tVar 3) (tCons (tVar 1) tNil)))) (own := [("_law_place_here", 3)]) rfl sc.nd (pi_tup (pe_slice sl_tupA (pv 0) (po_some pe_int) po_none)) (blkOk_by (own := [("_law_place_here", 3)]) (N := ["_law_condition_here", "_law_places", "_law_kind", "_law_place_here", "_law_part"]) (sc := defScope s_l_renamed_condition) (by decide +kernel)) (fun _ _ _ _ _ => (pg_name (i := 3) sc.nd rfl (.inl rfl))) (fun _ _ _ _ _ => pts_nil) (fun _ _ _ _ _ => (pe_cg G_l_place hr (by rfl) (pa_cons (pv 3) (pa_cons (pv 1) pa_nil))))) pa_nil)))))))), ?_⟩
  refine' i_start (by walk_at "set") ?_
  cases c with
  | tt =>
    rw [Cond.ok] at hok
    walk_at "rd"; refine i_ixTs ha ix0 ?_
    repeat (first | walk_at "rd" | walk_at "br")
    refine g_tup (K := K) (.one (.str _)) (by show 1 ≤ 100000; decide) fun v1 H1 k1 hv1 => ?_
    walk_at "t"
    refine i_slFrom (k := 1) (ha.up k1) fun v2 H2 k2 hv2 => ?_
    have hv2 : Dt K H2 v2 (.tuple (([] : List Int).map PyData.int)) := hv2
    have hsrc : ∀ x ∈ ([] : List Int), srcOk r x := by
      intro x hx
      exact nomatch hx
    refine go_lcT (M := []) hv2 (by rw [List.length_map]; simp) (fun i acc _ => acc = (([] : List Int).take i).map V.int) (fun i acc H1 H2 D _ _ p => p) rfl (fun i dd x acc H4 D hi hx k4 hD hacc hlt p R1 R0 r1 r0 => ?_) (fun l2 H4 acc k4 nl hl' hle pp => ?_)
    · rw [List.getElem?_map] at hi
      obtain ⟨y, hy, rfl⟩ := Option.map_eq_some_iff.mp hi
      obtain rfl := dt_int hx
      refine' t_yes (by decide) (by walk_at "set") ?_
      walk_at "t"
      refine ⟨r, y, l, rfl, ((k1.trans k2).trans k4).get0 hl, hsrc y (List.mem_of_getElem? hy), fun H5 k5 => ?_⟩
      refine r1 _ H5 (k5.get0 hacc) (k4.trans k5) ?_
      rw [p, List.take_add_one, hy, List.map_append]
      rfl
    · rw [List.length_map, List.take_length] at pp
      walk_at "t"
      refine i_tupL (ds := ([] : List Int).map PyData.int) hl' (by rw [pp]; exact dtAll_ints _) fun v3 H5 k5 hv3 => ?_
      refine i_cat (((hv1.up k2).up k4).up k5) hv3 (by show _ ≤ 100000; simp) fun v4 H6 k6 hv4 => ?_
      exact q v4 H6 ((((k1.trans k2).trans k4).trans k5).trans k6) hv4
  | ff =>
    rw [Cond.ok] at hok
    walk_at "rd"; refine i_ixTs ha ix0 ?_
    repeat (first | walk_at "rd" | walk_at "br")
    refine g_tup (K := K) (.one (.str _)) (by show 1 ≤ 100000; decide) fun v1 H1 k1 hv1 => ?_
    walk_at "t"
    refine i_slFrom (k := 1) (ha.up k1) fun v2 H2 k2 hv2 => ?_
    have hv2 : Dt K H2 v2 (.tuple (([] : List Int).map PyData.int)) := hv2
    have hsrc : ∀ x ∈ ([] : List Int), srcOk r x := by
      intro x hx
      exact nomatch hx
    refine go_lcT (M := []) hv2 (by rw [List.length_map]; simp) (fun i acc _ => acc = (([] : List Int).take i).map V.int) (fun i acc H1 H2 D _ _ p => p) rfl (fun i dd x acc H4 D hi hx k4 hD hacc hlt p R1 R0 r1 r0 => ?_) (fun l2 H4 acc k4 nl hl' hle pp => ?_)
    · rw [List.getElem?_map] at hi
      obtain ⟨y, hy, rfl⟩ := Option.map_eq_some_iff.mp hi
      obtain rfl := dt_int hx
      refine' t_yes (by decide) (by walk_at "set") ?_
      walk_at "t"
      refine ⟨r, y, l, rfl, ((k1.trans k2).trans k4).get0 hl, hsrc y (List.mem_of_getElem? hy), fun H5 k5 => ?_⟩
      refine r1 _ H5 (k5.get0 hacc) (k4.trans k5) ?_
      rw [p, List.take_add_one, hy, List.map_append]
      rfl
    · rw [List.length_map, List.take_length] at pp
      walk_at "t"
      refine i_tupL (ds := ([] : List Int).map PyData.int) hl' (by rw [pp]; exact dtAll_ints _) fun v3 H5 k5 hv3 => ?_
      refine i_cat (((hv1.up k2).up k4).up k5) hv3 (by show _ ≤ 100000; simp) fun v4 H6 k6 hv4 => ?_
      exact q v4 H6 ((((k1.trans k2).trans k4).trans k5).trans k6) hv4
  | less a b =>
    rw [Cond.ok] at hok
    walk_at "rd"; refine i_ixTs ha ix0 ?_
    repeat (first | walk_at "rd" | walk_at "br")
    refine g_tup (K := K) (.one (.str _)) (by show 1 ≤ 100000; decide) fun v1 H1 k1 hv1 => ?_
    walk_at "t"
    refine i_slFrom (k := 1) (ha.up k1) fun v2 H2 k2 hv2 => ?_
    have hv2 : Dt K H2 v2 (.tuple (([a, b] : List Int).map PyData.int)) := hv2
    have hsrc : ∀ x ∈ ([a, b] : List Int), srcOk r x := by
      intro x hx
      simp only [List.mem_cons, List.not_mem_nil, or_false] at hx
      rcases hx with rfl | rfl
      · exact hok.1.src
      · exact hok.2.src
    refine go_lcT (M := []) hv2 (by rw [List.length_map]; simp) (fun i acc _ => acc = (([a, b] : List Int).take i).map V.int) (fun i acc H1 H2 D _ _ p => p) rfl (fun i dd x acc H4 D hi hx k4 hD hacc hlt p R1 R0 r1 r0 => ?_) (fun l2 H4 acc k4 nl hl' hle pp => ?_)
    · rw [List.getElem?_map] at hi
      obtain ⟨y, hy, rfl⟩ := Option.map_eq_some_iff.mp hi
      obtain rfl := dt_int hx
      refine' t_yes (by decide) (by walk_at "set") ?_
      walk_at "t"
      refine ⟨r, y, l, rfl, ((k1.trans k2).trans k4).get0 hl, hsrc y (List.mem_of_getElem? hy), fun H5 k5 => ?_⟩
      refine r1 _ H5 (k5.get0 hacc) (k4.trans k5) ?_
      rw [p, List.take_add_one, hy, List.map_append]
      rfl
    · rw [List.length_map, List.take_length] at pp
      walk_at "t"
      refine i_tupL (ds := ([a, b] : List Int).map PyData.int) hl' (by rw [pp]; exact dtAll_ints _) fun v3 H5 k5 hv3 => ?_
      refine i_cat (((hv1.up k2).up k4).up k5) hv3 (by show _ ≤ 100000; simp) fun v4 H6 k6 hv4 => ?_
      exact q v4 H6 ((((k1.trans k2).trans k4).trans k5).trans k6) hv4
  | same a b =>
    rw [Cond.ok] at hok
    walk_at "rd"; refine i_ixTs ha ix0 ?_
    repeat (first | walk_at "rd" | walk_at "br")
    refine g_tup (K := K) (.one (.str _)) (by show 1 ≤ 100000; decide) fun v1 H1 k1 hv1 => ?_
    walk_at "t"
    refine i_slFrom (k := 1) (ha.up k1) fun v2 H2 k2 hv2 => ?_
    have hv2 : Dt K H2 v2 (.tuple (([a, b] : List Int).map PyData.int)) := hv2
    have hsrc : ∀ x ∈ ([a, b] : List Int), srcOk r x := by
      intro x hx
      simp only [List.mem_cons, List.not_mem_nil, or_false] at hx
      rcases hx with rfl | rfl
      · exact hok.1.src
      · exact hok.2.src
    refine go_lcT (M := []) hv2 (by rw [List.length_map]; simp) (fun i acc _ => acc = (([a, b] : List Int).take i).map V.int) (fun i acc H1 H2 D _ _ p => p) rfl (fun i dd x acc H4 D hi hx k4 hD hacc hlt p R1 R0 r1 r0 => ?_) (fun l2 H4 acc k4 nl hl' hle pp => ?_)
    · rw [List.getElem?_map] at hi
      obtain ⟨y, hy, rfl⟩ := Option.map_eq_some_iff.mp hi
      obtain rfl := dt_int hx
      refine' t_yes (by decide) (by walk_at "set") ?_
      walk_at "t"
      refine ⟨r, y, l, rfl, ((k1.trans k2).trans k4).get0 hl, hsrc y (List.mem_of_getElem? hy), fun H5 k5 => ?_⟩
      refine r1 _ H5 (k5.get0 hacc) (k4.trans k5) ?_
      rw [p, List.take_add_one, hy, List.map_append]
      rfl
    · rw [List.length_map, List.take_length] at pp
      walk_at "t"
      refine i_tupL (ds := ([a, b] : List Int).map PyData.int) hl' (by rw [pp]; exact dtAll_ints _) fun v3 H5 k5 hv3 => ?_
      refine i_cat (((hv1.up k2).up k4).up k5) hv3 (by show _ ≤ 100000; simp) fun v4 H6 k6 hv4 => ?_
      exact q v4 H6 ((((k1.trans k2).trans k4).trans k5).trans k6) hv4
  | empty a =>
    rw [Cond.ok] at hok
    walk_at "rd"; refine i_ixTs ha ix0 ?_
    repeat (first | walk_at "rd" | walk_at "br")
    refine g_tup (K := K) (.one (.str _)) (by show 1 ≤ 100000; decide) fun v1 H1 k1 hv1 => ?_
    walk_at "t"
    refine i_slFrom (k := 1) (ha.up k1) fun v2 H2 k2 hv2 => ?_
    have hv2 : Dt K H2 v2 (.tuple (([a] : List Int).map PyData.int)) := hv2
    have hsrc : ∀ x ∈ ([a] : List Int), srcOk r x := by
      intro x hx
      simp only [List.mem_cons, List.not_mem_nil, or_false] at hx
      rw [hx]; exact hok.src
    refine go_lcT (M := []) hv2 (by rw [List.length_map]; simp) (fun i acc _ => acc = (([a] : List Int).take i).map V.int) (fun i acc H1 H2 D _ _ p => p) rfl (fun i dd x acc H4 D hi hx k4 hD hacc hlt p R1 R0 r1 r0 => ?_) (fun l2 H4 acc k4 nl hl' hle pp => ?_)
    · rw [List.getElem?_map] at hi
      obtain ⟨y, hy, rfl⟩ := Option.map_eq_some_iff.mp hi
      obtain rfl := dt_int hx
      refine' t_yes (by decide) (by walk_at "set") ?_
      walk_at "t"
      refine ⟨r, y, l, rfl, ((k1.trans k2).trans k4).get0 hl, hsrc y (List.mem_of_getElem? hy), fun H5 k5 => ?_⟩
      refine r1 _ H5 (k5.get0 hacc) (k4.trans k5) ?_
      rw [p, List.take_add_one, hy, List.map_append]
      rfl
    · rw [List.length_map, List.take_length] at pp
      walk_at "t"
      refine i_tupL (ds := ([a] : List Int).map PyData.int) hl' (by rw [pp]; exact dtAll_ints _) fun v3 H5 k5 hv3 => ?_
      refine i_cat (((hv1.up k2).up k4).up k5) hv3 (by show _ ≤ 100000; simp) fun v4 H6 k6 hv4 => ?_
      exact q v4 H6 ((((k1.trans k2).trans k4).trans k5).trans k6) hv4
  | not c =>
    rw [Cond.ok] at hok
    walk_at "rd"; refine i_ixTs ha ix0 ?_
    repeat (first | walk_at "rd" | walk_at "br")
    refine i_ixT ha ix1 fun z hz => ?_
    walk_at "t"
    refine ⟨r, c, z, l, rfl, hz, hok, hl, fun u H1 k1 hu => ?_⟩
    walk_at "t"
    exact g_tup (K := K) (.cons (.str _) (.one hu)) (by show 2 ≤ 100000; decide) fun y H2 k2 hy => q y H2 (k1.trans k2) hy
  | all cs =>
    rw [Cond.ok] at hok
    walk_at "rd"; refine i_ixTs ha ix0 ?_
    repeat (first | walk_at "rd" | walk_at "br")
    refine i_ixT ha ix1 fun z hz => ?_
    rw [condDs_map] at hz
    refine go_lcT (M := []) hz (by rw [List.length_map]; omega) (fun i acc H' => DtAll K H' acc ((cs.take i).map condD)) (fun i acc H1 H2 D _ k p => p.up k) .nil (fun i dd x acc H4 D hi hx k4 hD hacc hlt p R1 R0 r1 r0 => ?_) (fun l2 H4 acc k4 nl hl' hle pp => ?_)
    · rw [List.getElem?_map] at hi
      obtain ⟨c, hc, rfl⟩ := Option.map_eq_some_iff.mp hi
      refine' t_yes (by decide) (by walk_at "set") ?_
      walk_at "t"
      refine ⟨r, c, x, l, rfl, hx, Cond.okAll_mem hok.1 (List.mem_of_getElem? hc), k4.get0 hl, fun u H5 k5 hu => ?_⟩
      refine r1 u H5 (k5.get0 hacc) (k4.trans k5) ?_
      rw [← take_map_next hc]
      exact (p.up k5).append (.one hu)
    · rw [List.length_map, List.take_length] at pp
      walk_at "t"
      refine i_tupL hl' pp fun u H5 k5 hu => ?_
      walk_at "t"
      refine g_tup (K := K) (.cons (.str _) (.one hu)) (by show 2 ≤ 100000; decide) fun y H6 k6 hy => q y H6 ((k4.trans k5).trans k6) ?_
      rw [condD, condDs_map]
      exact hy
  | any cs =>
    rw [Cond.ok] at hok
    walk_at "rd"; refine i_ixTs ha ix0 ?_
    repeat (first | walk_at "rd" | walk_at "br")
    refine i_ixT ha ix1 fun z hz => ?_
    rw [condDs_map] at hz
    refine go_lcT (M := []) hz (by rw [List.length_map]; omega) (fun i acc H' => DtAll K H' acc ((cs.take i).map condD)) (fun i acc H1 H2 D _ k p => p.up k) .nil (fun i dd x acc H4 D hi hx k4 hD hacc hlt p R1 R0 r1 r0 => ?_) (fun l2 H4 acc k4 nl hl' hle pp => ?_)
    · rw [List.getElem?_map] at hi
      obtain ⟨c, hc, rfl⟩ := Option.map_eq_some_iff.mp hi
      refine' t_yes (by decide) (by walk_at "set") ?_
      walk_at "t"
      refine ⟨r, c, x, l, rfl, hx, Cond.okAll_mem hok.1 (List.mem_of_getElem? hc), k4.get0 hl, fun u H5 k5 hu => ?_⟩
      refine r1 u H5 (k5.get0 hacc) (k4.trans k5) ?_
      rw [← take_map_next hc]
      exact (p.up k5).append (.one hu)
    · rw [List.length_map, List.take_length] at pp
      walk_at "t"
      refine i_tupL hl' pp fun u H5 k5 hu => ?_
      walk_at "t"
      refine g_tup (K := K) (.cons (.str _) (.one hu)) (by show 2 ≤ 100000; decide) fun y H6 k6 hy => q y H6 ((k4.trans k5).trans k6) ?_
      rw [condD, condDs_map]
      exact hy
theorem ok_l_ren (F : FT K mg "_law_renamed_condition" s_l_renamed_condition ["_law_condition_here", "_law_places"]) (T : Tx mg) (G : FG P w K mg base 1 "_law_place" ["_law_place_here", "_law_places"] (spPlace K)) : ∀ n, FG P w K mg base (n + 1) "_law_renamed_condition" ["_law_condition_here", "_law_places"] (spRen K n)
  | 0 => by
    obtain ⟨f, fd, F, m, b⟩ := F.ex
    have no : ∀ vs H Q E, ¬ spRen K 0 vs H Q E := fun vs H Q E h => by
      obtain ⟨_, _, _, _, _, _, z, _⟩ := h
      rw [Cond.ok] at z
      exact z
    exact ⟨f, fd, ⟨fun vs H Q E h => absurd h (no vs H Q E), fun A outer s H args us vs Q E _ _ _ _ h => absurd h (no vs H Q E)⟩, m, F.kp, b⟩
  | n + 1 => ok_l_ren_step F T (G.mono (by omega)) (ok_l_ren F T G n)
end
abbrev s_l_any_type : Stmt := topS 41
theorem sc_l_any_type : FnScope ["_law_draws_here", "_law_machine_here", "_law_held", "_law_place_here"] ["_law_draws_here", "_law_machine_here"] (defScope s_l_any_type) := ⟨rfl, rfl, rfl, by decide +kernel, rfl, by decide +kernel, by decide +kernel⟩
abbrev s_l_log : Stmt := topS 35
theorem sc_l_log : FnScope ["_law_script", "_law_draws_here", "_law_tags", "_law_most", "_law_factor", "_law_plus", "_law_log_here", "_law_k", "_law_value"] ["_law_script", "_law_draws_here", "_law_tags", "_law_most"] (defScope s_l_log) := ⟨rfl, rfl, rfl, by decide +kernel, rfl, by decide +kernel, by decide +kernel⟩
abbrev s_l_spaced : Stmt := topS 36
theorem sc_l_spaced : FnScope ["_law_kind", "_law_values", "_law_held", "_law_rank"] ["_law_kind", "_law_values"] (defScope s_l_spaced) := ⟨rfl, rfl, rfl, by decide +kernel, rfl, by decide +kernel, by decide +kernel⟩
abbrev s_l_placed : Stmt := topS 37
theorem sc_l_placed : FnScope ["_law_kind", "_law_needs", "_law_shift", "_law_wide", "_law_values", "_law_base", "_law_more", "_law_rank"] ["_law_kind", "_law_needs", "_law_shift"] (defScope s_l_placed) := ⟨rfl, rfl, rfl, by decide +kernel, rfl, by decide +kernel, by decide +kernel⟩
abbrev s_l_near_log : Stmt := topS 42
theorem sc_l_near_log : FnScope ["_law_draws_here", "_law_tags", "_law_content", "_law_other", "_law_value", "_law_values", "_law_wide", "_law_log_here", "_law_k"] ["_law_draws_here", "_law_tags", "_law_content", "_law_other"] (defScope s_l_near_log) := ⟨rfl, rfl, rfl, by decide +kernel, rfl, by decide +kernel, by decide +kernel⟩
def spAny (K : PySem.W.Frag) : Sp := fun vs H Q _ => ∃ (d : Addr) (m : Mach) (a : V), vs = [.ref d, a] ∧ m.Ok ∧ Dr H d ∧ Dt K H a (machD m) ∧ ∀ s rs u H', Kind m s rs → Dt K H' u (contD (s, rs)) → Kp [d] H H' → Dr H' d → Q u H'
def spLog (K : PySem.W.Frag) : Sp := fun vs H Q _ => ∃ (ls d : Addr) (t : Nat) (ns : List Int), vs = [.ref ls, .ref d, .int t, .int 10] ∧ 1 ≤ t ∧ (∀ H', Kp [d] H H' → SqL K H' ls (ns.map V.int)) ∧ Dr H d ∧
  ∀ log u H', (∀ e ∈ log, e.1 < t) → log.length ≤ 60 → Dt K H' u (logD log) → Kp [d] H H' → Dr H' d → Q u H'
def spNear (K : PySem.W.Frag) : Sp := fun vs H Q _ => ∃ (d : Addr) (t : Nat) (a b : V) (c e : Content), vs = [.ref d, .int t, a, b] ∧ 1 ≤ t ∧ Dt K H a (contD c) ∧ Dt K H b (contD e) ∧ c.2.length ≤ 20 ∧ e.2.length ≤ 20 ∧ Dr H d ∧
  ∀ log u H', (∀ e ∈ log, e.1 < t) → log.length ≤ 60 → Dt K H' u (logD log) → Kp [d] H H' → Dr H' d → Q u H'
theorem kind_ranks {m : Mach} {s : Nat} {h : Held} (hs : s < m.steps.length) (hl : h.length = m.regs) : Kind m s (ranks h) :=
  ⟨hs, by rw [ranks_len]; exact hl, fun r hr => by rw [many_ranks]; exact ranks_mem hr⟩
section
variable {P : Program} {w : World} {K : PySem.W.Frag} {mg : Str → Option Value} {base : Heap}
theorem ok_l_any_type (F : FT K mg "_law_any_type" s_l_any_type ["_law_draws_here", "_law_machine_here"]) (T : Tx mg) (G_l_take : FG P w K mg base 1 "_law_take" ["_law_draws_here", "_law_many_here"] spTake) (G_l_ranks : FG P w K mg base 1 "_law_ranks" ["_law_held"] (spRanks K)) : FG P w K mg base 2 "_law_any_type" ["_law_draws_here", "_law_machine_here"] (spAny K) := by
  refine F.ok sc_l_any_type (fun vs H Q E h => ?_) (fun f cdv A outer s H vs Q E hr h => ?_)
  · obtain ⟨_, _, _, rfl, _⟩ := h
    rfl
  obtain ⟨d, m, a, rfl, mok, hd, ha, q⟩ := h
  have sc := sc_l_any_type
  refine ⟨_, (pss_cons (ps_set (i := 2) sc.nd rfl (.inl rfl) (pe_lst pa_nil))
    (pss_cons (ps_for PassesOwn.never rfl (pi_range1 (by rfl) T.b_range (pa_cons (pe_ix ix_tup (pv 1) pe_int (fun _ _ => rfl)) pa_nil)) (pg_name (i := 3) sc.nd rfl (.inl rfl))
    (pss_one (ps_expr (pe_bm PySem.F.plainAttrs_list PySem.F.slot_list_append PySem.F.type_list_append mt_append (pv 2) (pa_cons (pe_ix ix_list (pe_lst (pa_cons pe_non (pa_cons (pe_cg G_l_take hr (by rfl) (pa_cons (pv 0) (pa_cons pe_int pa_nil))) pa_nil))) (pe_callTy call_intD (by rfl) T.b_int (by decide +kernel) (pa_cons (pe_cmpR op_gt (pe_cg G_l_take hr (by rfl) (pa_cons (pv 0) (pa_cons pe_int pa_nil))) pe_int (nomark _)) pa_nil)) (fun _ _ => rfl)) pa_nil)))))
    (pss_one (ps_ret (pe_tup (pa_cons (pe_cg G_l_take hr (by rfl) (pa_cons (pv 0) (pa_cons (pe_callB call_lenD (by rfl) T.b_len PySem.boot_len (pa_cons (pe_ix ix_tup (pv 1) pe_int (fun _ _ => rfl)) pa_nil)) pa_nil))) (pa_cons (pe_cg G_l_ranks hr (by rfl) (pa_cons (pe_callTy call_tupD (by rfl) T.b_tuple (by decide +kernel) (pa_cons (pv 2) pa_nil)) pa_nil)) pa_nil))))))), ?_⟩
  refine' i_start (by walk_at "set") ?_
  walk_at "t"
  refine g_lst (Nat.zero_le _) fun l1 H1 k1 n1 e1 => ?_
  walk_at "t"
  have hd1 := hd.up0 k1
  have nl1 := hd.ne n1
  have ndl1 : d ≠ l1 := fun z => nl1 (by rw [z]; exact List.mem_cons_self)
  refine i_ixTi (ha.up k1) ix1 ?_
  have rg := mok.regs
  refine go_forR (k := m.regs) rfl (by omega) (fun i σ H' => ∃ (y3 : Option V) (h : Held), σ = [some (.ref d), some a, some (.ref l1), y3] ∧ Kp [d, l1] H1 H' ∧ Dr H' d ∧ H' l1 = some (.lst (h.map oV)) ∧ h.length = i) ⟨none, [], rfl, Kp.refl, hd1, e1, rfl⟩ (fun i σ H2 hi pv => ?_) (fun σ H2 pv => ?_)
  · obtain ⟨y3, h, rfl, k2, hd2, e2, hl⟩ := pv
    walk_at "t"
    refine ⟨ty_lst (SqL.of e2), ?_⟩
    walk_at "t"
    refine ⟨d, 4, rfl, hd2, by decide, fun x H3 z0 z1 k3 hd3 => ?_⟩
    walk_at "t"
    refine g_lst (by show 2 ≤ 100000; decide) fun l4 H4 k4 n4 e4 => ?_
    walk_at "t"
    refine ⟨d, 4, rfl, hd3.up0 k4, by decide, fun y H5 z2 z3 k5 hd5 => ?_⟩
    walk_at "t"
    refine i_intb ?_
    refine i_pick (SqL.of (k5.get (hd3.ne n4) e4)) (by split <;> decide) (by show _ < (2 : Int); split <;> decide) fun v hv => ?_
    walk_at "t"
    obtain ⟨o, rfl⟩ : ∃ o, v = oV o := by
      simp only [List.mem_cons, List.not_mem_nil, or_false] at hv
      rcases hv with rfl | rfl
      · exact ⟨none, rfl⟩
      · exact ⟨some x, rfl⟩
    have k25 : Kp [d] H2 H5 := (k3.trans k4.any).trans k5
    refine i_append (k25.get nl1 e2) (by rw [List.length_map]; omega) fun H6 k6 e6 => ?_
    exact ⟨_, h ++ [o], rfl, (k2.trans (k25.mono (by simp))).trans (k6.mono (by simp)), hd5.up k6 (fun z => ndl1 (List.mem_singleton.mp z)), by rw [e6, List.map_append]; rfl, by rw [List.length_append, List.length_singleton, hl]⟩
  · obtain ⟨y3, h, rfl, k2, hd2, e2, hl⟩ := pv
    walk_at "t"
    refine i_ixT ((ha.up k1).up k2) ix2 fun w1 h1 => ?_
    walk_at "t"
    refine i_lenT h1 ?_
    rw [List.length_map]
    walk_at "t"
    refine ⟨d, _, rfl, hd2, by have := mok.num; omega, fun x H3 z0 z1 k3 hd3 => ?_⟩
    obtain ⟨s0, rfl⟩ : ∃ n : Nat, x = (n : Int) := ⟨x.toNat, by omega⟩
    walk_at "t"
    refine i_tupL (k3.get nl1 e2) (dtAll_oV h) fun u H4 k4 hu => ?_
    walk_at "t"
    refine ⟨h, u, rfl, hu, by omega, fun v H5 k5 hv => ?_⟩
    walk_at "t"
    refine g_tup (K := K) (.cons (.int _) (.one hv)) (by show 2 ≤ 100000; decide) fun y H6 k6 hy => ?_
    have kk : Kp [d] H H2 := (k1.any (N := [d])).fresh k2 fun z hz => by
      simp only [List.mem_cons, List.not_mem_nil, or_false] at hz
      rcases hz with rfl | rfl
      · exact .inl List.mem_cons_self
      · exact .inr n1
    have k36 := (k4.trans k5).trans k6
    exact q s0 (ranks h) y H6 (kind_ranks (by omega) hl) hy ((kk.trans k3).trans k36.any) (hd3.up0 k36)
theorem logD_snoc {l : List (Nat × Int)} {e : Nat × Int} : (l ++ [e]).map entryD = l.map entryD ++ [entryD e] := by rw [List.map_append]; rfl
theorem ok_l_log (F : FT K mg "_law_log" s_l_log ["_law_script", "_law_draws_here", "_law_tags", "_law_most"]) (T : Tx mg) (G_l_take : FG P w K mg base 1 "_law_take" ["_law_draws_here", "_law_many_here"] spTake) (G_l_cell : FG P w K mg base 2 "_law_cell" ["_law_script", "_law_draws_here"] (spCell K)) : FG P w K mg base 3 "_law_log" ["_law_script", "_law_draws_here", "_law_tags", "_law_most"] (spLog K) := by
  have G_l_take := G_l_take.mono (show 1 ≤ 2 by omega)
  refine F.ok sc_l_log (fun vs H Q E h => ?_) (fun f cdv A outer s H vs Q E hr h => ?_)
  · obtain ⟨_, _, _, _, rfl, _⟩ := h
    rfl
  obtain ⟨ls, d, t, ns, rfl, ht, hls, hd, q⟩ := h
  have sc := sc_l_log
  refine ⟨_, (pss_cons (ps_set (i := 4) sc.nd rfl (.inl rfl) (pe_ix ix_list (pe_lst (pa_cons pe_int (pa_cons pe_int (pa_cons pe_int (pa_cons pe_int pa_nil))))) (pe_cg G_l_take hr (by rfl) (pa_cons (pv 1) (pa_cons pe_int pa_nil))) (fun _ _ => rfl)))
    (pss_cons (ps_set (i := 5) sc.nd rfl (.inl rfl) (pe_ix ix_list (pe_lst (pa_cons pe_int (pa_cons pe_int (pa_cons (pe_un un_neg pe_int) (pa_cons (pe_cg G_l_cell hr (by rfl) (pa_cons (pv 0) (pa_cons (pv 1) pa_nil))) pa_nil))))) (pe_cg G_l_take hr (by rfl) (pa_cons (pv 1) (pa_cons pe_int pa_nil))) (fun _ _ => rfl)))
    (pss_cons (ps_set (i := 6) sc.nd rfl (.inl rfl) (pe_lst pa_nil))
    (pss_cons (ps_for PassesOwn.never rfl (pi_range1 (by rfl) T.b_range (pa_cons (pe_cg G_l_take hr (by rfl) (pa_cons (pv 1) (pa_cons (pe_op op_add (pv 3) pe_int) pa_nil))) pa_nil)) (pg_name (i := 7) sc.nd rfl (.inl rfl))
    (pss_cons (ps_set (i := 8) sc.nd rfl (.inl rfl) (pe_cg G_l_take hr (by rfl) (pa_cons (pv 1) (pa_cons pe_int pa_nil))))
    (pss_one (ps_expr (pe_bm PySem.F.plainAttrs_list PySem.F.slot_list_append PySem.F.type_list_append mt_append (pv 6) (pa_cons (pe_tup (pa_cons (pe_cg G_l_take hr (by rfl) (pa_cons (pv 1) (pa_cons (pv 2) pa_nil))) (pa_cons (pe_op op_add (pe_op op_mul (pv 4) (pv 8)) (pv 5)) pa_nil))) pa_nil))))))
    (pss_one (ps_ret (pe_callTy call_tupD (by rfl) T.b_tuple (by decide +kernel) (pa_cons (pv 6) pa_nil)))))))), ?_⟩
  refine' i_start (by walk_at "set") ?_
  walk_at "t"
  refine g_lst (by show 4 ≤ 100000; decide) fun l1 H1 k1 n1 e1 => ?_
  walk_at "t"
  refine ⟨d, 4, rfl, hd.up0 k1, by decide, fun x1 H2 z0 z1 k2 hd2 => ?_⟩
  refine i_pickI [1, 1, 1, 7] (SqL.of (k2.get (hd.ne n1) e1)) z0 z1 fun fac hfac => ?_
  have hf : 0 ≤ fac ∧ fac ≤ 7 := by
    simp only [List.mem_cons, List.not_mem_nil, or_false] at hfac
    omega
  walk_at "t"
  have k02 : Kp [d] H H2 := k1.any.trans k2
  refine ⟨ls, d, ns, rfl, fun H' k' => hls H' (k02.trans k'), hd2, fun cell H3 k3 hd3 => ?_⟩
  walk_at "t"
  refine g_lst (by show 4 ≤ 100000; decide) fun l4 H4 k4 n4 e4 => ?_
  walk_at "t"
  refine ⟨d, 4, rfl, hd3.up0 k4, by decide, fun x2 H5 z2 z3 k5 hd5 => ?_⟩
  refine i_pickI [0, 0, -3, cell] (SqL.of (k5.get (hd3.ne n4) e4)) z2 z3 fun plus _ => ?_
  walk_at "t"
  have k05 : Kp [d] H H5 := ((k02.trans k3).trans k4.any).trans k5
  refine g_lst (Nat.zero_le _) fun l6 H6 k6 n6 e6 => ?_
  walk_at "t"
  have hd6 := hd5.up0 k6
  have nl6 := hd5.ne n6
  have ndl6 : d ≠ l6 := fun z => nl6 (by rw [z]; exact List.mem_cons_self)
  refine ⟨d, 11, rfl, hd6, by decide, fun x3 H7 z4 z5 k7 hd7 => ?_⟩
  obtain ⟨n, rfl⟩ : ∃ n : Nat, x3 = (n : Int) := ⟨x3.toNat, by omega⟩
  refine go_forR (k := n) rfl (by omega) (fun i σ H' => ∃ (y7 y8 : Option V) (log : List (Nat × Int)) (acc : List V), σ = [some (.ref ls), some (.ref d), some (.int (t : Nat)), some (.int 10), some (.int fac), some (.int plus), some (.ref l6), y7, y8] ∧ Kp [d, l6] H6 H' ∧ Dr H' d ∧ H' l6 = some (.lst acc) ∧ DtAll K H' acc (log.map entryD) ∧ log.length = i ∧ ∀ e ∈ log, e.1 < t)
    ⟨none, none, [], [], rfl, k7.mono (by simp), hd7, k7.get nl6 e6, .nil, rfl, fun _ z => (nomatch z)⟩ (fun i σ H8 hi pv => ?_) (fun σ H8 pv => ?_)
  · obtain ⟨y7, y8, log, acc, rfl, k8, hd8, e8, hacc, hlog, htag⟩ := pv
    walk_at "t"
    refine ⟨d, 6, rfl, hd8, by decide, fun v H9 z6 z7 k9 hd9 => ?_⟩
    walk_at "t"
    have e9 := k9.get nl6 e8
    refine ⟨ty_lst (SqL.of e9), ?_⟩
    walk_at "t"
    refine ⟨d, _, rfl, hd9, by omega, fun tg H10 z8 z9 k10 hd10 => ?_⟩
    obtain ⟨tn, rfl⟩ : ∃ n : Nat, tg = (n : Int) := ⟨tg.toNat, by omega⟩
    walk_at "t"
    refine i_I (.inl ⟨by omega, by omega⟩) ?_
    walk_at "t"
    refine g_tup (K := K) (ds := [.int tn, .int (fac * v + plus)]) (.cons (.int _) (.one (.int _))) (by show 2 ≤ 100000; decide) fun y H11 k11 hy => ?_
    walk_at "t"
    have la := hacc.length
    rw [List.length_map] at la
    have k811 : Kp [d] H8 H11 := (k9.trans k10).trans k11.any
    refine i_append (k811.get nl6 e8) (by omega) fun H12 k12 e12 => ?_
    refine ⟨_, _, log ++ [(tn, fac * v + plus)], _, rfl, (k8.trans (k811.mono (by simp))).trans (k12.mono (by simp)), (hd10.up0 k11).up k12 (fun z => ndl6 (List.mem_singleton.mp z)), e12, ?_, by rw [List.length_append, List.length_singleton, hlog], fun e he => ?_⟩
    · rw [logD_snoc]
      exact ((hacc.up k811).up k12).append (.one (hy.up k12))
    · rcases List.mem_append.mp he with z | z
      · exact htag e z
      · rw [List.mem_singleton.mp z]; show tn < t; omega
  · obtain ⟨y7, y8, log, acc, rfl, k8, hd8, e8, hacc, hlog, htag⟩ := pv
    walk_at "t"
    refine i_tupL e8 hacc fun u H9 k9 hu => ?_
    have kk : Kp [d] H5 H8 := (k6.any (N := [d])).fresh k8 fun z hz => by
      simp only [List.mem_cons, List.not_mem_nil, or_false] at hz
      rcases hz with rfl | rfl
      · exact .inl List.mem_cons_self
      · exact .inr n6
    exact q log u H9 htag (by omega) hu ((k05.trans kk).trans k9.any) (hd8.up0 k9)
theorem ok_l_spaced (F : FT K mg "_law_spaced" s_l_spaced ["_law_kind", "_law_values"]) (T : Tx mg) : FG P w K mg base 1 "_law_spaced" ["_law_kind", "_law_values"] (spWith K) := by
  refine F.ok sc_l_spaced (fun vs H Q E h => ?_) (fun f cdv A outer s H vs Q E hr h => ?_)
  · obtain ⟨_, _, _, _, _, _, rfl, _⟩ := h
    rfl
  obtain ⟨st, rs, n, f, a, l, rfl, ha, hl, hlen, hrs, q⟩ := h
  have sc := sc_l_spaced
  refine ⟨_, (pss_cons (ps_set (i := 2) sc.nd rfl (.inl rfl) (pe_lst pa_nil))
    (pss_cons (ps_for PassesOwn.never rfl (pi_tup (pe_ix ix_tup (pv 0) pe_int (fun _ _ => rfl))) (pg_name (i := 3) sc.nd rfl (.inl rfl))
    (pss_one (ps_if (pt_cmp (pc_isN (pv 3)) rfl)
    (pss_one (ps_expr (pe_bm PySem.F.plainAttrs_list PySem.F.slot_list_append PySem.F.type_list_append mt_append (pv 2) (pa_cons pe_non pa_nil))))
    (pss_one (ps_expr (pe_bm PySem.F.plainAttrs_list PySem.F.slot_list_append PySem.F.type_list_append mt_append (pv 2) (pa_cons (pe_ix ix_list (pv 1) (pv 3) (fun _ _ => rfl)) pa_nil)))))))
    (pss_one (ps_ret (pe_tup (pa_cons (pe_ix ix_tup (pv 0) pe_int (fun _ _ => rfl)) (pa_cons (pe_callTy call_tupD (by rfl) T.b_tuple (by decide +kernel) (pa_cons (pv 2) pa_nil)) pa_nil))))))), ?_⟩
  refine' i_start (by walk_at "set") ?_
  walk_at "t"
  refine g_lst (Nat.zero_le _) fun l1 H1 k1 n1 e1 => ?_
  walk_at "t"
  refine i_ixT (ha.up k1) ix1 fun w1 h1 => ?_
  have nll : l ∉ [l1] := fun z => by
    rw [← List.mem_singleton.mp z, hl] at n1
    cases n1
  refine go_forT (M := [l1]) h1 (fun i σ H' => Kp [l1] H1 H' ∧ ∃ (y3 : Option V), σ = [some a, some (.ref l), some (.ref l1), y3] ∧ H' l1 = some (.lst ((withF (rs.take i) f).map oV))) ⟨Kp.refl, none, rfl, e1⟩ (fun i σ H' p => p.1) (fun i dd x σ H2 hi pv hx => ?_) (fun σ H2 pv => ?_)
  · obtain ⟨k2, y3, rfl, e2⟩ := pv
    rw [List.getElem?_map] at hi
    obtain ⟨o, ho, rfl⟩ := Option.map_eq_some_iff.mp hi
    obtain rfl := dt_oI hx
    have la : ((withF (rs.take i) f).map oV).length ≤ 100000 := by
      unfold withF
      rw [List.length_map, List.length_map, List.length_take]
      show min i rs.length ≤ _
      omega
    cases o with
    | none =>
      repeat (first | walk_at "rd" | walk_at "br")
      refine ⟨ty_lst (SqL.of e2), ?_⟩
      walk_at "t"
      refine i_append e2 la fun H3 k3 e3 => ⟨k2.trans k3, _, rfl, ?_⟩
      rw [e3, withF_take ho, List.map_append]
      rfl
    | some r =>
      repeat (first | walk_at "rd" | walk_at "br")
      refine ⟨ty_lst (SqL.of e2), ?_⟩
      walk_at "t"
      have b := hrs r (List.mem_of_getElem? ho)
      refine i_ixL (SqL.of (k2.get nll (k1.get0 hl))) (intsV_at b.1 b.2) ?_
      walk_at "t"
      refine i_append e2 la fun H3 k3 e3 => ⟨k2.trans k3, _, rfl, ?_⟩
      rw [e3, withF_take ho, List.map_append]
      rfl
  · obtain ⟨k2, y3, rfl, e2⟩ := pv
    rw [List.length_map, List.take_length] at e2
    walk_at "t"
    refine i_ixTi ((ha.up k1).up k2) ix0 ?_
    walk_at "t"
    refine i_tupL (ds := (withF rs f).map oI) e2 (dtAll_oV _) fun u H5 k5 hu => ?_
    walk_at "t"
    refine g_tup (K := K) (.cons (.int _) (.one hu)) (by show 2 ≤ 100000; decide) fun y H6 k6 hy => ?_
    exact q y H6 (((k1.fresh k2 fun z hz => .inr (by rw [List.mem_singleton.mp hz]; exact n1)).trans k5).trans k6) hy
theorem ok_l_near_log (F : FT K mg "_law_near_log" s_l_near_log ["_law_draws_here", "_law_tags", "_law_content", "_law_other"]) (T : Tx mg) (G_l_take : FG P w K mg base 1 "_law_take" ["_law_draws_here", "_law_many_here"] spTake) : FG P w K mg base 2 "_law_near_log" ["_law_draws_here", "_law_tags", "_law_content", "_law_other"] (spNear K) := by
  refine F.ok sc_l_near_log (fun vs H Q E h => ?_) (fun f cdv A outer s H vs Q E hr h => ?_)
  · obtain ⟨_, _, _, _, _, _, rfl, _⟩ := h
    rfl
  obtain ⟨d, t, a, b, c, e, rfl, ht, ha, hb, hcl, hel, hd, q⟩ := h
  have sc := sc_l_near_log
  refine ⟨_, (pss_cons (ps_set (i := 5) sc.nd rfl (.inl rfl) (pe_callB (cr_sortedSet rfl) (by rfl) T.b_sorted (by decide +kernel) (pa_cons (pe_callTy (call_setL rfl) (by rfl) T.b_set (by decide +kernel) (pa_cons (pe_op op_cat (pe_lc (te := (tVar 4)) (own := [("_law_value", 4)]) rfl sc.nd (pi_tup (pe_op op_catA (pe_ix ix_tup (pv 2) pe_int (fun _ _ => rfl)) (pe_ix ix_tup (pv 3) pe_int (fun _ _ => rfl)))) (blkOk_by (own := [("_law_value", 4)]) (N := ["_law_draws_here", "_law_tags", "_law_content", "_law_other", "_law_value", "_law_values", "_law_wide", "_law_log_here", "_law_k"]) (sc := defScope s_l_near_log) (by decide +kernel)) (fun _ _ _ _ _ => (pg_name (i := 4) sc.nd rfl (.inl rfl))) (fun _ _ _ _ _ => (pts_one (pt_cmp (pc_notN (pv 4)) rfl))) (fun _ _ _ _ _ => (pv 4))) (pe_lst (pa_cons pe_int pa_nil))) pa_nil)) pa_nil)))
    (pss_cons (ps_set (i := 6) sc.nd rfl (.inl rfl) (pe_op op_fdiv (pe_op op_pow pe_int pe_int) pe_int))
    (pss_cons (ps_set (i := 7) sc.nd rfl (.inl rfl) (pe_lst pa_nil))
    (pss_cons (ps_for PassesOwn.never rfl (pi_range1 (by rfl) T.b_range (pa_cons (pe_cg G_l_take hr (by rfl) (pa_cons (pv 0) (pa_cons pe_int pa_nil))) pa_nil)) (pg_name (i := 8) sc.nd rfl (.inl rfl))
    (pss_cons (ps_set (i := 4) sc.nd rfl (.inl rfl) (pe_op op_add (pe_ix ix_list (pv 5) (pe_cg G_l_take hr (by rfl) (pa_cons (pv 0) (pa_cons (pe_callB call_lenD (by rfl) T.b_len PySem.boot_len (pa_cons (pv 5) pa_nil)) pa_nil))) (fun _ _ => rfl)) (pe_ix ix_list (pe_lst (pa_cons pe_int (pa_cons pe_int (pa_cons pe_int (pa_cons (pe_un un_neg pe_int) (pa_cons (pv 6) (pa_cons (pe_un un_neg (pv 6)) (pa_cons (pe_op op_mul pe_int (pv 6)) pa_nil)))))))) (pe_cg G_l_take hr (by rfl) (pa_cons (pv 0) (pa_cons pe_int pa_nil))) (fun _ _ => rfl))))
    (pss_one (ps_expr (pe_bm PySem.F.plainAttrs_list PySem.F.slot_list_append PySem.F.type_list_append mt_append (pv 7) (pa_cons (pe_tup (pa_cons (pe_cg G_l_take hr (by rfl) (pa_cons (pv 0) (pa_cons (pv 1) pa_nil))) (pa_cons (pv 4) pa_nil))) pa_nil))))))
    (pss_one (ps_ret (pe_callTy call_tupD (by rfl) T.b_tuple (by decide +kernel) (pa_cons (pv 7) pa_nil)))))))), ?_⟩
  refine' i_start (by walk_at "set") ?_
  walk_at "t"
  refine i_ixT ha ix1 fun w1 h1 => ?_
  walk_at "t"
  refine i_ixT hb ix1 fun w2 h2 => ?_
  refine i_cat h1 h2 (by rw [List.length_map, List.length_map]; omega) fun w3 H1 k1 h3 => ?_
  rw [← List.map_append] at h3
  refine go_lcVals (h := c.2 ++ e.2) h3 (by rw [List.length_append]; omega) (by decide) (fun _ => rfl) fun l2 H2 k2 n2 e2 => ?_
  walk_at "t"
  refine g_lst (by show 1 ≤ 100000; decide) fun l3 H3 k3 n3 e3 => ?_
  have vl := vals_le (c.2 ++ e.2)
  rw [List.length_append] at vl
  refine i_catL (k3.get0 e2) e3 (by rw [List.length_map]; show _ + 1 ≤ _; omega) fun l4 H4 k4 n4 e4 => ?_
  walk_at "t"
  have e4' : H4 l4 = some (.lst ((vals (c.2 ++ e.2) ++ [0]).map V.int)) := by rw [e4, List.map_append]; rfl
  refine i_setL (SqL.of e4') (by rw [List.length_append]; show _ + 1 ≤ _; omega) fun p c5 H5 k5 e5 hc5 => ?_
  walk_at "t"
  rw [List.length_append] at hc5
  have hc5 : c5 ≤ (vals (c.2 ++ e.2)).length + 1 := hc5
  refine i_sorted e5 (by omega) fun l6 ns H6 k6 n6 e6 hup hmem => ?_
  walk_at "t"
  have k06 : Kp [] H H6 := ((((k1.trans k2).trans k3).trans k4).trans k5).trans k6
  have hz : (0 : Int) ∈ ns := (hmem 0).mpr (decide_eq_true (List.mem_append_right _ List.mem_cons_self))
  have nl6 : l6 ∉ [d] := (hd.up0 ((((k1.trans k2).trans k3).trans k4).trans k5)).ne n6
  have hns : 0 < ns.length := List.length_pos_of_mem hz
  refine i_I ⟨by decide, by decide, by decide⟩ ?_
  walk_at "t"
  refine i_I ⟨by decide, by decide⟩ ?_
  walk_at "t"
  generalize (10 : Int) ^ (60 : Int).toNat / 32 = wd
  refine g_lst (Nat.zero_le _) fun l7 H7 k7 n7 e7 => ?_
  walk_at "t"
  have hd7 := (hd.up0 k06).up0 k7
  have nl7 := (hd.up0 k06).ne n7
  have ndl7 : d ≠ l7 := fun z => nl7 (by rw [z]; exact List.mem_cons_self)
  have n67 : l6 ≠ l7 := fun z => by rw [← z, e6] at n7; cases n7
  have nd6 : l6 ≠ d := fun z => nl6 (by rw [z]; exact List.mem_cons_self)
  refine ⟨d, 15, rfl, hd7, by decide, fun x3 H8 z4 z5 k8 hd8 => ?_⟩
  obtain ⟨n, rfl⟩ : ∃ n : Nat, x3 = (n : Int) := ⟨x3.toNat, by omega⟩
  refine go_forR (k := n) rfl (by omega) (fun i σ H' => ∃ (y4 y8 : Option V) (log : List (Nat × Int)) (acc : List V), σ = [some (.ref d), some (.int (t : Nat)), some a, some b, y4, some (.ref l6), some (.int wd), some (.ref l7), y8] ∧ Kp [d, l7] H7 H' ∧ Dr H' d ∧ H' l7 = some (.lst acc) ∧ DtAll K H' acc (log.map entryD) ∧ log.length = i ∧ ∀ e ∈ log, e.1 < t)
    ⟨none, none, [], [], rfl, k8.mono (by simp), hd8, k8.get nl7 e7, .nil, rfl, fun _ z => (nomatch z)⟩ (fun i σ H9 hi pv => ?_) (fun σ H9 pv => ?_)
  · obtain ⟨y4, y8, log, acc, rfl, k9, hd9, e9, hacc, hlog, htag⟩ := pv
    have e96 : H9 l6 = some (.lst (ns.map V.int)) := k9.get (by simp [n67, nd6]) (k7.get0 e6)
    walk_at "t"
    refine i_lenL (SqL.of e96) ?_
    walk_at "t"
    refine ⟨d, _, rfl, hd9, by rw [List.length_map]; omega, fun x1 H10 z6 z7 k10 hd10 => ?_⟩
    rw [List.length_map] at z7
    refine i_pickI ns (SqL.of (k10.get nl6 e96)) z6 z7 fun v1 _ => ?_
    walk_at "t"
    refine i_I (.inl ⟨by decide, by decide⟩) ?_
    walk_at "t"
    refine g_lst (by show 7 ≤ 100000; decide) fun l11 H11 k11 n11 e11 => ?_
    walk_at "t"
    refine ⟨d, 7, rfl, hd10.up0 k11, by decide, fun x2 H12 z8 z9 k12 hd12 => ?_⟩
    refine i_pickI [0, 0, 1, -1, wd, -wd, 40 * wd] (SqL.of (k12.get (hd10.ne n11) e11)) z8 z9 fun v2 _ => ?_
    walk_at "t"
    have k912 : Kp [d] H9 H12 := (k10.trans k11.any).trans k12
    have e12 := k912.get nl7 e9
    refine ⟨ty_lst (SqL.of e12), ?_⟩
    walk_at "t"
    refine ⟨d, _, rfl, hd12, by omega, fun tg H13 y0 y1 k13 hd13 => ?_⟩
    obtain ⟨tn, rfl⟩ : ∃ n : Nat, tg = (n : Int) := ⟨tg.toNat, by omega⟩
    walk_at "t"
    refine g_tup (K := K) (ds := [.int tn, .int (v1 + v2)]) (.cons (.int _) (.one (.int _))) (by show 2 ≤ 100000; decide) fun y H14 k14 hy => ?_
    walk_at "t"
    have la := hacc.length
    rw [List.length_map] at la
    have k914 : Kp [d] H9 H14 := (k912.trans k13).trans k14.any
    refine i_append (k914.get nl7 e9) (by omega) fun H15 k15 e15 => ?_
    refine ⟨_, _, log ++ [(tn, v1 + v2)], _, rfl, (k9.trans (k914.mono (by simp))).trans (k15.mono (by simp)), (hd13.up0 k14).up k15 (fun z => ndl7 (List.mem_singleton.mp z)), e15, ?_, by rw [List.length_append, List.length_singleton, hlog], fun e he => ?_⟩
    · rw [logD_snoc]
      exact ((hacc.up k914).up k15).append (.one (hy.up k15))
    · rcases List.mem_append.mp he with z | z
      · exact htag e z
      · rw [List.mem_singleton.mp z]; show tn < t; omega
  · obtain ⟨y4, y8, log, acc, rfl, k9, hd9, e9, hacc, hlog, htag⟩ := pv
    walk_at "t"
    refine i_tupL e9 hacc fun u H10 k10 hu => ?_
    have kk : Kp [d] H6 H9 := (k7.any (N := [d])).fresh k9 fun z hz => by
      simp only [List.mem_cons, List.not_mem_nil, or_false] at hz
      rcases hz with rfl | rfl
      · exact .inl List.mem_cons_self
      · exact .inr n7
    exact q log u H10 htag (by omega) hu ((k06.any.trans kk).trans k10.any) (hd9.up0 k10)
end
abbrev s_l_mapped : Stmt := topS 40
theorem sc_l_mapped : FnScope ["_law_machine_here", "_law_places", "_law_registers", "_law_extra", "_law_steps", "_law_row", "_law_rows", "_law_cases", "_law_found", "_law_case_here", "_law_place_here", "_law_moves", "_law_pair", "_law_says", "_law_said"] ["_law_machine_here", "_law_places", "_law_registers", "_law_extra"] (defScope s_l_mapped) := ⟨rfl, rfl, rfl, by decide +kernel, rfl, by decide +kernel, by decide +kernel⟩
mutual
theorem ok_reg {r r' : Nat} (h : r ≤ r') : ∀ {n : Nat} {c : Cond}, Cond.ok r n c → Cond.ok r' n c
  | 0, _, k => by rw [Cond.ok] at k; exact k.elim
  | _ + 1, .tt, _ => by rw [Cond.ok]; trivial
  | _ + 1, .ff, _ => by rw [Cond.ok]; trivial
  | _ + 1, .less a b, k => by
    rw [Cond.ok] at k ⊢
    exact ⟨pl_reg h k.1, pl_reg h k.2⟩
  | _ + 1, .same a b, k => by
    rw [Cond.ok] at k ⊢
    exact ⟨pl_reg h k.1, pl_reg h k.2⟩
  | _ + 1, .empty a, k => by
    rw [Cond.ok] at k ⊢
    exact pl_reg h k
  | n + 1, .not c, k => by
    rw [Cond.ok] at k ⊢
    exact ok_reg h k
  | n + 1, .all cs, k => by
    rw [Cond.ok] at k ⊢
    exact ⟨Cond.okAll_of fun c hc => ok_reg h (Cond.okAll_mem k.1 hc), k.2⟩
  | n + 1, .any cs, k => by
    rw [Cond.ok] at k ⊢
    exact ⟨Cond.okAll_of fun c hc => ok_reg h (Cond.okAll_mem k.1 hc), k.2⟩
theorem pl_reg {r r' : Nat} (h : r ≤ r') {s : Int} (k : placeOk r s) : placeOk r' s := k.imp id fun z => ⟨z.1, by omega⟩
end
theorem src_reg {r r' : Nat} (h : r ≤ r') {s : Int} (k : srcOk r s) : srcOk r' s := by
  rcases k with z | z | z
  · exact .inl z
  · exact .inr (.inl z)
  · exact .inr (.inr ⟨z.1, by omega⟩)
def spMapped (K : PySem.W.Frag) : Sp := fun vs H Q _ => ∃ (m : Mach) (b : Nat) (a v : V) (lp le : Addr), vs = [a, .ref lp, .int ((m.regs : Nat) + 1), .ref le] ∧ Dt K H a (machD m) ∧ MkB b m ∧ b ≤ 30 ∧ m.regs < 2 ∧ H lp = some (.lst (intsN m.regs)) ∧ H le = some (.lst [v]) ∧ Dt K H v (.tuple [.int m.regs, .int (-1)]) ∧
  ∀ m' u H', MkB b m' → Dt K H' u (machD m') → Kp [] H H' → Q u H'
section
variable {P : Program} {w : World} {K : PySem.W.Frag} {mg : Str → Option Value} {base : Heap}
theorem ok_l_mapped (F : FT K mg "_law_mapped" s_l_mapped ["_law_machine_here", "_law_places", "_law_registers", "_law_extra"]) (T : Tx mg) (G_l_place : FG P w K mg base 1 "_law_place" ["_law_place_here", "_law_places"] (spPlace K)) (G_l_renamed_condition : FG P w K mg base 4 "_law_renamed_condition" ["_law_condition_here", "_law_places"] (spRen K 3)) :
    FG P w K mg base 5 "_law_mapped" ["_law_machine_here", "_law_places", "_law_registers", "_law_extra"] (spMapped K) := by
  have G_l_place := G_l_place.mono (show 1 ≤ 4 by omega)
  refine F.ok sc_l_mapped (fun vs H Q E h => ?_) (fun f cdv A outer s H vs Q E hr h => ?_)
  · obtain ⟨_, _, _, _, _, _, rfl, _⟩ := h
    rfl
  obtain ⟨m, b, a, v, lp, le, rfl, ha, mb, hb, hr2, hlp, hle, hv, q⟩ := h
  have t8 := mb.tags.2
  have m3 := mb.num.2
  have sc := sc_l_mapped
  refine ⟨_, (pss_cons (ps_set (i := 4) sc.nd rfl (.inl rfl) (pe_lst pa_nil))
    (pss_cons (ps_for PassesOwn.never rfl (pi_tup (pe_ix ix_tup (pv 0) pe_int (fun _ _ => rfl))) (pg_name (i := 5) sc.nd rfl (.inl rfl))
    (pss_cons (ps_set (i := 6) sc.nd rfl (.inl rfl) (pe_lst pa_nil))
    (pss_cons (ps_for PassesOwn.never rfl (pi_tup (pv 5)) (pg_name (i := 7) sc.nd rfl (.inl rfl))
    (pss_cons (ps_set (i := 8) sc.nd rfl (.inl rfl) (pe_lst pa_nil))
    (pss_cons (ps_for PassesOwn.never rfl (pi_tup (pv 7)) (pg_name (i := 9) sc.nd rfl (.inl rfl))
    (pss_cons (ps_setLc (i := 11) (te := (tUn _ (tC (.int 2)))) (own := [("_law_place_here", 10)]) rfl sc.nd rfl rfl (sw_true rfl rfl rfl (by decide +kernel)) (pi_range1 (by rfl) T.b_range (pa_cons (pv 2) pa_nil)) (blkOk_by (own := [("_law_place_here", 10)]) (N := ["_law_machine_here", "_law_places", "_law_registers", "_law_extra", "_law_steps", "_law_row", "_law_rows", "_law_cases", "_law_found", "_law_case_here", "_law_place_here", "_law_moves", "_law_pair", "_law_says", "_law_said"]) (sc := defScope s_l_mapped) (by decide +kernel)) (fun _ _ _ _ _ => (pg_name (i := 10) sc.nd rfl (.inl rfl))) (fun _ _ _ _ _ => pts_nil) (fun _ _ _ _ _ => (pe_un un_neg pe_int)))
    (pss_cons (ps_for PassesOwn.never rfl (pi_range1 (by rfl) T.b_range (pa_cons (pe_ix ix_tup (pv 0) pe_int (fun _ _ => rfl)) pa_nil)) (pg_name (i := 10) sc.nd rfl (.inl rfl))
    (pss_one (ps_asg (pe_cg G_l_place hr (by rfl) (pa_cons (pe_ix ix_tup (pe_ix ix_tup (pv 9) pe_int (fun _ _ => rfl)) (pv 10) (fun _ _ => rfl)) (pa_cons (pv 1) pa_nil))) (pg_sub (pv 11) (pe_ix ix_list (pv 1) (pv 10) (fun _ _ => rfl)) set_list))))
    (pss_cons (ps_for PassesOwn.never rfl (pi_list (pv 3)) (pg_name (i := 12) sc.nd rfl (.inl rfl))
    (pss_one (ps_asg (pe_ix ix_tup (pv 12) pe_int (fun _ _ => rfl)) (pg_sub (pv 11) (pe_ix ix_tup (pv 12) pe_int (fun _ _ => rfl)) set_list))))
    (pss_cons (ps_set (i := 13) sc.nd rfl (.inl rfl) (pe_callTy call_tupD (by rfl) T.b_tuple (by decide +kernel) (pa_cons (pe_lc (te := (tTup (tCons (tOp (rIxT K) (tVar 14) (tC (.int 0))) (tCons (tCall _ [] E0 (tCons (tOp (rIxT K) (tVar 14) (tC (.int 1))) (tCons (tVar 1) tNil))) tNil)))) (own := [("_law_said", 14)]) rfl sc.nd (pi_tup (pe_ix ix_tup (pv 9) pe_int (fun _ _ => rfl))) (blkOk_by (own := [("_law_said", 14)]) (N := ["_law_machine_here", "_law_places", "_law_registers", "_law_extra", "_law_steps", "_law_row", "_law_rows", "_law_cases", "_law_found", "_law_case_here", "_law_place_here", "_law_moves", "_law_pair", "_law_says", "_law_said"]) (sc := defScope s_l_mapped) (by decide +kernel)) (fun _ _ _ _ _ => (pg_name (i := 14) sc.nd rfl (.inl rfl))) (fun _ _ _ _ _ => pts_nil) (fun _ _ _ _ _ => (pe_tup (pa_cons (pe_ix ix_tup (pv 14) pe_int (fun _ _ => rfl)) (pa_cons (pe_cg G_l_place hr (by rfl) (pa_cons (pe_ix ix_tup (pv 14) pe_int (fun _ _ => rfl)) (pa_cons (pv 1) pa_nil))) pa_nil))))) pa_nil)))
    (pss_one (ps_expr (pe_bm PySem.F.plainAttrs_list PySem.F.slot_list_append PySem.F.type_list_append mt_append (pv 8) (pa_cons (pe_tup (pa_cons (pe_cg G_l_renamed_condition hr (by rfl) (pa_cons (pe_ix ix_tup (pv 9) pe_int (fun _ _ => rfl)) (pa_cons (pv 1) pa_nil))) (pa_cons (pe_callTy call_tupD (by rfl) T.b_tuple (by decide +kernel) (pa_cons (pv 11) pa_nil)) (pa_cons (pv 13) (pa_cons (pe_ix ix_tup (pv 9) pe_int (fun _ _ => rfl)) pa_nil))))) pa_nil)))))))))
    (pss_one (ps_expr (pe_bm PySem.F.plainAttrs_list PySem.F.slot_list_append PySem.F.type_list_append mt_append (pv 6) (pa_cons (pe_callTy call_tupD (by rfl) T.b_tuple (by decide +kernel) (pa_cons (pv 8) pa_nil)) pa_nil)))))))
    (pss_one (ps_expr (pe_bm PySem.F.plainAttrs_list PySem.F.slot_list_append PySem.F.type_list_append mt_append (pv 4) (pa_cons (pe_callTy call_tupD (by rfl) T.b_tuple (by decide +kernel) (pa_cons (pv 6) pa_nil)) pa_nil)))))))
    (pss_one (ps_ret (pe_tup (pa_cons (pe_ix ix_tup (pv 0) pe_int (fun _ _ => rfl)) (pa_cons (pv 2) (pa_cons (pe_callTy call_tupD (by rfl) T.b_tuple (by decide +kernel) (pa_cons (pv 4) pa_nil)) pa_nil)))))))), ?_⟩
  refine' i_start (by walk_at "set") ?_
  walk_at "t"
  refine g_lst (Nat.zero_le _) fun l4 H1 k1 n1 e1 => ?_
  walk_at "t"
  have ne4 : ∀ {x : Addr}, H x ≠ none → x ≠ l4 := fun hx z => hx (by rw [z]; exact n1)
  have hlp0 : H lp ≠ none := by rw [hlp]; exact fun z => by cases z
  have hle0 : H le ≠ none := by rw [hle]; exact fun z => by cases z
  refine i_ixT (ha.up k1) ix2 fun w1 h1 => ?_
  refine go_forT (M := [l4]) h1 (fun i σ H' => Kp [l4] H1 H' ∧ ∃ (y5 y6 y7 y8 y9 y10 y11 y12 y13 y14 : Option V) (st : List (List (List Case))) (acc : List V), σ = [some a, some (.ref lp), some (.int ((m.regs : Nat) + 1)), some (.ref le), some (.ref l4), y5, y6, y7, y8, y9, y10, y11, y12, y13, y14] ∧ H' l4 = some (.lst acc) ∧ DtAll K H' acc (st.map rowD) ∧ st.length = i ∧
    ∀ row ∈ st, row.length = m.tags ∧ ∀ cs ∈ row, cs.length ≤ b ∧ ∀ c ∈ cs, c.Ok (m.regs + 1) m.steps.length) ⟨Kp.refl, none, none, none, none, none, none, none, none, none, none, [], [], rfl, e1, .nil, rfl, fun _ z => (nomatch z)⟩ (fun i σ H' p => p.1) (fun i dd x σ H2 hi pv hx => ?_) (fun σ H2 pv => ?_)
  · obtain ⟨k2, y5, y6, y7, y8, y9, y10, y11, y12, y13, y14, st, acc, rfl, e2, hacc, hsl, hst⟩ := pv
    rw [List.getElem?_map] at hi
    obtain ⟨row, hrow, rfl⟩ := Option.map_eq_some_iff.mp hi
    have hrm := List.mem_of_getElem? hrow
    have hin : i < m.steps.length := (List.getElem?_eq_some_iff.mp hrow).1
    have hrl := mb.rows row hrm
    walk_at "t"
    refine g_lst (Nat.zero_le _) fun l6 H3 k3 n3 e3 => ?_
    walk_at "t"
    have n46 : l4 ≠ l6 := fun z => by rw [← z, e2] at n3; cases n3
    refine go_forT (M := [l6]) (hx.up k3) (fun i2 σ H' => Kp [l6] H3 H' ∧ ∃ (y7 y8 y9 y10 y11 y12 y13 y14 : Option V) (rw2 : List (List Case)) (acc6 : List V), σ = [some a, some (.ref lp), some (.int ((m.regs : Nat) + 1)), some (.ref le), some (.ref l4), some x, some (.ref l6), y7, y8, y9, y10, y11, y12, y13, y14] ∧ H' l6 = some (.lst acc6) ∧ DtAll K H' acc6 (rw2.map casesD) ∧ rw2.length = i2 ∧
      ∀ cs ∈ rw2, cs.length ≤ b ∧ ∀ c ∈ cs, c.Ok (m.regs + 1) m.steps.length) ⟨Kp.refl, y7, y8, y9, y10, y11, y12, y13, y14, [], [], rfl, e3, .nil, rfl, fun _ z => (nomatch z)⟩ (fun i2 σ H' p => p.1) (fun i2 dd2 x2 σ H4 hi2 pv hx2 => ?_) (fun σ H4 pv => ?_)
    · obtain ⟨k4, y7, y8, y9, y10, y11, y12, y13, y14, rw2, acc6, rfl, e4, hacc6, hrl2, hrw2⟩ := pv
      rw [List.getElem?_map] at hi2
      obtain ⟨cs, hcs, rfl⟩ := Option.map_eq_some_iff.mp hi2
      have hcsm := mb.css row hrm cs (List.mem_of_getElem? hcs)
      have hi2l : i2 < row.length := (List.getElem?_eq_some_iff.mp hcs).1
      walk_at "t"
      refine g_lst (Nat.zero_le _) fun l8 H5 k5 n5 e5 => ?_
      walk_at "t"
      have n68 : l6 ≠ l8 := fun z => by rw [← z, e4] at n5; cases n5
      have kH5 : Kp [l4, l6] H1 H5 := ((k2.mono (by simp)).trans k3.any).trans ((k4.mono (by simp)).trans k5.any)
      refine go_forT (M := [l8]) (hx2.up k5) (fun i3 σ H' => Kp [l8] H5 H' ∧ ∃ (y9 y10 y11 y12 y13 y14 : Option V) (cs2 : List Case) (acc8 : List V), σ = [some a, some (.ref lp), some (.int ((m.regs : Nat) + 1)), some (.ref le), some (.ref l4), some x, some (.ref l6), some x2, some (.ref l8), y9, y10, y11, y12, y13, y14] ∧ H' l8 = some (.lst acc8) ∧ DtAll K H' acc8 (cs2.map caseD) ∧ cs2.length = i3 ∧
        ∀ c ∈ cs2, c.Ok (m.regs + 1) m.steps.length) ⟨Kp.refl, y9, y10, y11, y12, y13, y14, [], [], rfl, e5, .nil, rfl, fun _ z => (nomatch z)⟩ (fun i3 σ H' p => p.1) (fun i3 dd3 x3 σ H6 hi3 pv hx3 => ?_) (fun σ H6 pv => ?_)
      · obtain ⟨k6, y9, y10, y11, y12, y13, y14, cs2, acc8, rfl, e6, hacc8, hcl2, hcs2⟩ := pv
        rw [List.getElem?_map] at hi3
        obtain ⟨c, hc, rfl⟩ := Option.map_eq_some_iff.mp hi3
        have cok := hcsm.2 c (List.mem_of_getElem? hc)
        have hi3l : i3 < cs.length := (List.getElem?_eq_some_iff.mp hc).1
        have k06 : Kp [] H H6 := by
          refine (k1.fresh (N := [l4, l6, l8]) ((kH5.mono (by simp)).trans (k6.mono (by simp))) fun z hz => .inr ?_)
          have n30 : H l6 = none := by
            by_cases e : l6 = l4
            · rw [e]; exact n1
            · exact (k1.any.trans k2).freeM (by simp [e]) n3
          simp only [List.mem_cons, List.not_mem_nil, or_false] at hz
          rcases hz with rfl | rfl | rfl
          · exact n1
          · exact n30
          · by_cases e : z = l4
            · rw [e]; exact n1
            · by_cases e' : z = l6
              · rw [e']; exact n30
              · exact (k1.any.trans (((k2.mono (by simp)).trans k3.any).trans (k4.mono (by simp)) : Kp [l4, l6] H1 H4)).freeM (by simp [e, e']) n5
        have hlp6 := k06.get0 hlp
        have hle6 := k06.get0 hle
        walk_at "t"
        refine go_lcR (M := []) (k := m.regs + 1) (by rw [Int.natCast_add]; rfl) (by omega) (fun i acc _ => acc = (List.replicate i (-2 : Int)).map V.int) (fun i acc H1 H2 D _ _ p => p) rfl (fun i acc H7 D hi k7 hD hacc hlt p R1 R0 r1 r0 => ?_) (fun l11 H7 acc11 k7 n7 e7 hle' pp => ?_)
        · refine' t_yes (by decide) (by walk_at "set") ?_
          walk_at "t"
          refine r1 _ _ hacc k7 ?_
          rw [p, List.replicate_succ', List.map_append]
          rfl
        walk_at "t"
        have n8b : l8 ≠ l11 := fun z => by rw [← z, e6] at n7; cases n7
        have npl : lp ≠ l11 := fun z => by rw [← z, hlp6] at n7; cases n7
        have nle : le ≠ l11 := fun z => by rw [← z, hle6] at n7; cases n7
        refine i_ixTi ((ha.up k06).up k7) ix1 ?_
        refine go_forR (k := m.regs) rfl (by omega) (fun i4 σ H' => ∃ (y10 y12 y13 y14 : Option V) (ms : List Int), σ = [some a, some (.ref lp), some (.int ((m.regs : Nat) + 1)), some (.ref le), some (.ref l4), some x, some (.ref l6), some x2, some (.ref l8), some x3, y10, some (.ref l11), y12, y13, y14] ∧ Kp [l11] H7 H' ∧ H' l11 = some (.lst (ms.map V.int)) ∧ ms.length = m.regs + 1 ∧ ∀ s ∈ ms, srcOk (m.regs + 1) s)
          ⟨y10, y12, y13, y14, List.replicate (m.regs + 1) (-2), rfl, Kp.refl, by rw [e7, pp], List.length_replicate, fun s hs => by rw [List.eq_of_mem_replicate hs]; exact .inr (.inl rfl)⟩ (fun i4 σ H8 hi4 pv => ?_) (fun σ H8 pv => ?_)
        · obtain ⟨y10, y12, y13, y14, ms, rfl, k8, e8, hml, hms⟩ := pv
          walk_at "t"
          have k68 : Kp [l11] H6 H8 := k7.any.trans k8
          have hi4m : i4 < c.moves.length := by rw [cok.len]; exact hi4
          refine i_ixT (hx3.up k68) ix1 fun w9 h9 => ?_
          walk_at "t"
          refine i_ixTi h9 (atI_mapn (List.getElem?_eq_getElem hi4m)) ?_
          walk_at "t"
          have hlp8 := k68.get (by simp [npl]) hlp6
          have okm := cok.moves _ (List.getElem_mem hi4m)
          refine ⟨m.regs, _, lp, rfl, hlp8, okm, fun H9 k9 => ?_⟩
          walk_at "t"
          refine i_ixL (SqL.of (k9.get0 hlp8)) (intsN_at (by omega) (by omega)) ?_
          refine i_setL2 (k9.get0 e8) (j := i4) (by unfold ixN; rw [List.length_map, hml, if_pos (by omega), if_pos (by omega)]; rfl) fun H10 k10 e10 => ?_
          refine ⟨_, _, _, _, ms.set i4 c.moves[i4], rfl, (k8.trans k9.any).trans k10, by rw [e10, List.map_set], by rw [List.length_set]; exact hml, fun s hs => ?_⟩
          rcases List.mem_or_eq_of_mem_set hs with z | rfl
          · exact hms s z
          · exact src_reg (by omega) okm
        · obtain ⟨y10, y12, y13, y14, ms, rfl, k8, e8, hml, hms⟩ := pv
          walk_at "t"
          have k68 : Kp [l11] H6 H8 := k7.any.trans k8
          have hle8 := k68.get (by simp [nle]) hle6
          have hv8 := (hv.up k06).up k68
          refine go_forL (xs := [v]) (SqL.of hle8) (fun i4 σ H' => ∃ (y12 : Option V) (ms : List Int), σ = [some a, some (.ref lp), some (.int ((m.regs : Nat) + 1)), some (.ref le), some (.ref l4), some x, some (.ref l6), some x2, some (.ref l8), some x3, y10, some (.ref l11), y12, y13, y14] ∧ Kp [l11] H8 H' ∧ H' l11 = some (.lst (ms.map V.int)) ∧ ms.length = m.regs + 1 ∧ ∀ s ∈ ms, srcOk (m.regs + 1) s)
            ⟨y12, ms, rfl, Kp.refl, e8, hml, hms⟩ (fun i4 σ H' _ pv => ?_) (fun i4 u σ H9 hi4 pv => ?_) (fun σ H9 pv => ?_)
          · obtain ⟨_, _, _, k, _⟩ := pv
            exact SqL.of (k.get (by simp [nle]) hle8)
          · obtain ⟨y12, ms, rfl, k9, e9, hml, hms⟩ := pv
            obtain rfl : u = v := by
              match i4, hi4 with
              | 0, h => exact (Option.some.inj h).symm
              | n + 1, h => simp at h
            walk_at "t"
            refine i_ixTi (hv8.up k9) ix1 ?_
            walk_at "t"
            refine i_ixTi (hv8.up k9) ix0 ?_
            refine i_setL2 e9 (j := m.regs) (by unfold ixN; rw [List.length_map, hml, if_pos (by omega), if_pos (by omega)]; rfl) fun H10 k10 e10 => ?_
            refine ⟨_, ms.set m.regs (-1), rfl, k9.trans k10, by rw [e10, List.map_set], by rw [List.length_set]; exact hml, fun s hs => ?_⟩
            rcases List.mem_or_eq_of_mem_set hs with z | rfl
            · exact hms s z
            · exact .inl rfl
          · obtain ⟨y12, ms, rfl, k9, e9, hml, hms⟩ := pv
            walk_at "t"
            have k69 : Kp [l11] H6 H9 := k68.trans k9
            have hlp9 := k69.get (by simp [npl]) hlp6
            refine i_ixT (hx3.up k69) ix2 fun w10 h10 => ?_
            refine go_lcT (M := []) h10 (by rw [List.length_map]; have := cok.few; omega) (fun i acc H' => DtAll K H' acc ((c.says.take i).map sayD)) (fun i acc H1 H2 D _ k p => p.up k) .nil (fun i dd xx acc H10 D hi hxx k10 hD hacc hlt p R1 R0 r1 r0 => ?_) (fun l13 H10 acc13 k10 n10 e10 hle' pp => ?_)
            · rw [List.getElem?_map] at hi
              obtain ⟨sy, hsy, rfl⟩ := Option.map_eq_some_iff.mp hi
              refine' t_yes (by decide) (by walk_at "set") ?_
              walk_at "t"
              refine i_ixTi hxx ix0 ?_
              walk_at "t"
              refine i_ixTi hxx ix1 ?_
              walk_at "t"
              refine ⟨m.regs, sy.2, lp, rfl, k10.get0 hlp9, cok.says sy (List.mem_of_getElem? hsy), fun H11 k11 => ?_⟩
              walk_at "t"
              refine g_tup (K := K) (ds := [.int sy.1, .int sy.2]) (.cons (.int _) (.one (.int _))) (by show 2 ≤ 100000; decide) fun y H12 k12 hy => ?_
              refine r1 y H12 (k12.get0 (k11.get0 hacc)) ((k10.trans k11).trans k12) ?_
              rw [← take_map_next hsy]
              exact (p.up (k11.trans k12)).append (.one hy)
            · rw [List.length_map, List.take_length] at pp
              walk_at "t"
              refine i_tupL e10 pp fun t13 H11 k11 h13 => ?_
              walk_at "t"
              have k611 : Kp [l11] H6 H11 := k69.trans (k10.trans k11).any
              have e811 : H11 l8 = some (.lst acc8) := k611.get (by simp [n8b]) e6
              refine ⟨ty_lst (SqL.of e811), ?_⟩
              walk_at "t"
              refine i_ixT (hx3.up k611) ix0 fun wc hwc => ?_
              walk_at "t"
              refine ⟨m.regs, c.cond, wc, lp, rfl, hwc, cok.cond, k611.get (by simp [npl]) hlp6, fun cu H12 k12 hcu => ?_⟩
              walk_at "t"
              refine i_tupL (ds := ms.map PyData.int) (k12.get0 ((k10.trans k11).get0 e9)) (dtAll_ints _) fun tm H13 k13 htm => ?_
              walk_at "t"
              have k613 : Kp [l11] H6 H13 := k611.trans (k12.trans k13).any
              refine i_ixTi (hx3.up k613) ix3 ?_
              walk_at "t"
              refine g_tup (K := K) (.cons (hcu.up k13) (.cons htm (.cons ((h13.up k12).up k13) (.one (.int _))))) (by show 4 ≤ 100000; decide) fun y H14 k14 hy => ?_
              walk_at "t"
              have la := hacc8.length
              rw [List.length_map] at la
              have k614 : Kp [l11] H6 H14 := k613.trans k14.any
              refine i_append (k614.get (by simp [n8b]) e6) (by have := hcsm.1; omega) fun H15 k15 e15 => ?_
              refine ⟨k6.trans ?_, _, _, _, _, _, _, cs2 ++ [⟨c.cond, ms, c.says, c.next⟩], _, rfl, e15, ?_, by rw [List.length_append, List.length_singleton, hcl2], fun c' hc' => ?_⟩
              · refine (Kp.refl (M := [l8])).fresh (N := [l8, l11]) ((k614.mono (by simp)).trans (k15.mono (by simp))) fun z hz => ?_
                simp only [List.mem_cons, List.not_mem_nil, or_false] at hz
                rcases hz with rfl | rfl
                · exact .inl List.mem_cons_self
                · exact .inr n7
              · rw [List.map_append]
                exact ((hacc8.up k614).up k15).append (.one (hy.up k15))
              · rcases List.mem_append.mp hc' with z | z
                · exact hcs2 c' z
                · rw [List.mem_singleton.mp z]
                  exact ⟨ok_reg (by omega) cok.cond, hms, hml, fun p hp => src_reg (by omega) (cok.says p hp), cok.few, cok.next⟩
      · obtain ⟨k6, y9, y10, y11, y12, y13, y14, cs2, acc8, rfl, e6, hacc8, hcl2, hcs2⟩ := pv
        rw [List.length_map] at hcl2
        walk_at "t"
        have k46 : Kp [] H4 H6 := k5.fresh k6 fun z hz => .inr (by rw [List.mem_singleton.mp hz]; exact n5)
        have e66 := k46.get0 e4
        refine ⟨ty_lst (SqL.of e66), ?_⟩
        walk_at "t"
        refine i_tupL e6 hacc8 fun u H7 k7 hu => ?_
        walk_at "t"
        have la := hacc6.length
        rw [List.length_map] at la
        refine i_append (k7.get0 e66) (by omega) fun H8 k8 e8 => ?_
        refine ⟨(k4.trans (k46.trans k7).any).trans k8, _, _, _, _, _, _, _, _, rw2 ++ [cs2], _, rfl, e8, ?_, by rw [List.length_append, List.length_singleton, hrl2], fun r hr => ?_⟩
        · rw [List.map_append]
          exact ((hacc6.up (k46.trans k7)).up k8).append (.one (hu.up k8))
        · rcases List.mem_append.mp hr with z | z
          · exact hrw2 r z
          · rw [List.mem_singleton.mp z]; exact ⟨by have := hcsm.1; omega, hcs2⟩
    · obtain ⟨k4, y7, y8, y9, y10, y11, y12, y13, y14, rw2, acc6, rfl, e4, hacc6, hrl2, hrw2⟩ := pv
      rw [List.length_map] at hrl2
      walk_at "t"
      have k24 : Kp [] H2 H4 := k3.fresh k4 fun z hz => .inr (by rw [List.mem_singleton.mp hz]; exact n3)
      have e44 := k24.get0 e2
      refine ⟨ty_lst (SqL.of e44), ?_⟩
      walk_at "t"
      refine i_tupL e4 hacc6 fun u H7 k7 hu => ?_
      walk_at "t"
      have la := hacc.length
      rw [List.length_map] at la
      refine i_append (k7.get0 e44) (by omega) fun H8 k8 e8 => ?_
      refine ⟨(k2.trans (k24.trans k7).any).trans k8, _, _, _, _, _, _, _, _, _, _, st ++ [rw2], _, rfl, e8, ?_, by rw [List.length_append, List.length_singleton, hsl], fun r hr => ?_⟩
      · rw [List.map_append]
        exact ((hacc.up (k24.trans k7)).up k8).append (.one (hu.up k8))
      · rcases List.mem_append.mp hr with z | z
        · exact hst r z
        · rw [List.mem_singleton.mp z]; exact ⟨by omega, hrw2⟩
  · obtain ⟨k2, y5, y6, y7, y8, y9, y10, y11, y12, y13, y14, st, acc, rfl, e2, hacc, hsl, hst⟩ := pv
    rw [List.length_map] at hsl
    have k02 : Kp [] H H2 := k1.fresh k2 fun z hz => .inr (by rw [List.mem_singleton.mp hz]; exact n1)
    walk_at "t"
    refine i_ixTi (ha.up k02) ix0 ?_
    walk_at "t"
    refine i_tupL e2 hacc fun u H3 k3 hu => ?_
    walk_at "t"
    refine g_tup (K := K) (ds := [.int m.tags, .int ((m.regs : Nat) + 1), stepsD st]) (.cons (.int _) (.cons (.int _) (.one hu))) (by show 3 ≤ 100000; decide) fun y H4 k4 hy => ?_
    refine q ⟨m.tags, m.regs + 1, st⟩ y H4 ⟨mb.tags, hr2, by show 1 ≤ st.length ∧ st.length ≤ 3; rw [hsl]; exact mb.num, fun row h => (hst row h).1, fun row h cs hc => ?_⟩ ?_ ((k02.trans k3).trans k4)
    · have z := (hst row h).2 cs hc
      show cs.length ≤ b ∧ ∀ c ∈ cs, c.Ok (m.regs + 1) st.length
      rw [hsl]
      exact z
    · exact hy
end
abbrev s_law : Stmt := topS 43
theorem sc_law : FnScope ["_law_script", "_law_draws_here", "_law_machine_here", "_law_k", "_law_kind", "_law_needs", "_law_content", "_law_other", "_law_logs", "_law_log_here", "_law_j"] ["_law_script"] (defScope s_law) := ⟨rfl, rfl, rfl, by decide +kernel, rfl, by decide +kernel, by decide +kernel⟩
/-! ### where the needed values are put -/
def wideC : Int := 4 * 10 ^ (60 : Int).toNat
def w64 : Int := 62500000000000000000000000000000000000000000000000000000000
theorem wide_eq : wideC = 64 * w64 := by decide +kernel
theorem wide64 : wideC / 64 = w64 := by decide +kernel
theorem wide2 : wideC / 2 = 32 * w64 := by decide +kernel
theorem w64_pos : 0 < w64 := by decide +kernel
def bm (found : List Nat) : Nat → Int × Int
  | 0 => (0, 0)
  | i + 1 => if i ∈ found then ((bm found i).1 + wideC, 0) else ((bm found i).1, (bm found i).2 + 1)
def plc (found : List Nat) (sh : Int) (i : Nat) : Int := (bm found (i + 1)).1 + (bm found (i + 1)).2 * (wideC / 64) + (if decide (0 < (bm found (i + 1)).2) = true then 1 else 0) * sh * (wideC / 2)
theorem bm_nn (found : List Nat) : ∀ i, 0 ≤ (bm found i).2 ∧ (bm found i).2 ≤ i
  | 0 => ⟨Int.le_refl _, Int.le_refl _⟩
  | i + 1 => by
    have ih := bm_nn found i
    unfold bm
    split
    · exact ⟨Int.le_refl _, by show (0 : Int) ≤ ((i + 1 : Nat) : Int); omega⟩
    · show 0 ≤ (bm found i).2 + 1 ∧ (bm found i).2 + 1 ≤ ((i + 1 : Nat) : Int)
      omega
theorem plc_step (found : List Nat) {sh : Int} (hs : sh = 0 ∨ sh = 1) {i : Nat} (hi : i ≤ 20) : plc found sh i < plc found sh (i + 1) := by
  have h1 := bm_nn found (i + 1)
  have hp := w64_pos
  unfold plc
  rw [wide64, wide2]
  rw [show bm found (i + 1 + 1) = if i + 1 ∈ found then ((bm found (i + 1)).1 + wideC, 0) else ((bm found (i + 1)).1, (bm found (i + 1)).2 + 1) from rfl]
  generalize bm found (i + 1) = p at h1
  obtain ⟨B, M⟩ := p
  have h1 : 0 ≤ M ∧ M ≤ ((i + 1 : Nat) : Int) := h1
  rw [wide_eq]
  have hm : M * w64 ≤ 21 * w64 := Int.mul_le_mul_of_nonneg_right (by omega) (by omega)
  by_cases hf : i + 1 ∈ found
  · rw [if_pos hf]
    show B + M * w64 + (if decide (0 < M) = true then 1 else 0) * sh * (32 * w64) < B + 64 * w64 + 0 * w64 + (if decide ((0 : Int) < 0) = true then 1 else 0) * sh * (32 * w64)
    rw [if_neg (show ¬ decide ((0 : Int) < 0) = true by decide)]
    rcases hs with rfl | rfl
    · rw [Int.mul_zero, Int.zero_mul, Int.zero_mul, Int.zero_mul]; omega
    · split
      · omega
      · omega
  · rw [if_neg hf]
    show B + M * w64 + (if decide (0 < M) = true then 1 else 0) * sh * (32 * w64) < B + (M + 1) * w64 + (if decide (0 < M + 1) = true then 1 else 0) * sh * (32 * w64)
    rw [if_pos (show decide (0 < M + 1) = true from decide_eq_true (by omega)), Int.add_mul]
    rcases hs with rfl | rfl
    · rw [Int.mul_zero, Int.mul_zero, Int.zero_mul]; omega
    · split
      · omega
      · omega
theorem plc_lt (found : List Nat) {sh : Int} (hs : sh = 0 ∨ sh = 1) {i j : Nat} (h : i < j) (hj : j ≤ 20) : plc found sh i < plc found sh j := by
  induction j with
  | zero => omega
  | succ j ih =>
    have st := plc_step found hs (i := j) (by omega)
    by_cases e : i = j
    · rw [e]; exact st
    · have := ih (by omega) (by omega)
      omega
theorem plc_le (found : List Nat) (i : Nat) : plc found 0 i ≤ plc found 1 i := by
  unfold plc
  rw [wide2]
  have hp := w64_pos
  split
  · omega
  · omega
theorem plc_eq (found : List Nat) {i : Nat} (h : i ∈ found) : plc found 0 i = plc found 1 i := by
  unfold plc
  have e : (bm found (i + 1)).2 = 0 := by
    unfold bm
    rw [if_pos h]
  rw [e, if_neg (show ¬ decide ((0 : Int) < 0) = true by decide)]
  simp
theorem in_found (found : List Nat) (i : Nat) : inV (.int (i : Nat)) (found.map fun k => V.int (k : Nat)) = decide (i ∈ found) := by
  induction found with
  | nil => rfl
  | cons k ks ih =>
    unfold inV at ih ⊢
    rw [List.map_cons, List.any_cons, ih]
    show (((k : Nat) : Int) == ((i : Nat) : Int) || decide (i ∈ ks)) = _
    by_cases h : k = i
    · subst h
      simp
    · have e : ¬ ((k : Nat) : Int) = ((i : Nat) : Int) := by omega
      rw [beq_eq_false_iff_ne.mpr e, Bool.false_or]
      refine decide_eq_decide.mpr ?_
      rw [List.mem_cons]
      exact ⟨.inr, fun z => z.elim (fun y => absurd y.symm h) id⟩
def spPlaced (K : PySem.W.Frag) : Sp := fun vs H Q _ => ∃ (s : Nat) (rs : Held) (found : List Nat) (sh : Int) (a b : V), vs = [a, b, .int sh] ∧ Dt K H a (contD (s, rs)) ∧ Dt K H b (.tuple (found.map fun k => .int (k : Nat))) ∧ (sh = 0 ∨ sh = 1) ∧ rs.length ≤ 2 ∧ (∀ r, some r ∈ rs → 0 ≤ r ∧ r < many rs) ∧
  ∀ u H', Kp [] H H' → Dt K H' u (contD (s, withF rs (plc found sh))) → Q u H'
theorem sql_keep {K : PySem.W.Frag} {H H' : Hp} {l d : Addr} {xs : List V} (h : SqL K H l xs) (k : Kp [d] H H') (n : H d = none) : SqL K H' l xs := by
  have ne : ∀ {o : HO}, H l = some o → l ∉ [d] := fun e z => by
    rw [List.mem_singleton.mp z, n] at e
    cases e
  rcases h with (h | ⟨o, h⟩) | h
  · exact .inl (.inl (k.get (ne h) h))
  · exact .inl (.inr ⟨o, k.get (ne h) h⟩)
  · exact .inr h
section
variable {P : Program} {w : World} {K : PySem.W.Frag} {mg : Str → Option Value} {base : Heap}
theorem ok_l_placed (F : FT K mg "_law_placed" s_l_placed ["_law_kind", "_law_needs", "_law_shift"]) (T : Tx mg) (G_l_many : FG P w K mg base 1 "_law_many" ["_law_ranks_here"] (spMany K)) (G_l_spaced : FG P w K mg base 1 "_law_spaced" ["_law_kind", "_law_values"] (spWith K)) : FG P w K mg base 2 "_law_placed" ["_law_kind", "_law_needs", "_law_shift"] (spPlaced K) := by
  refine F.ok sc_l_placed (fun vs H Q E h => ?_) (fun f cdv A outer s H vs Q E hr h => ?_)
  · obtain ⟨_, _, _, _, _, _, rfl, _⟩ := h
    rfl
  obtain ⟨s0, rs, found, sh, a, b, rfl, ha, hb, hsh, hrl, hrk, q⟩ := h
  have ml := many_le rs
  have sc := sc_l_placed
  refine ⟨_, (pss_cons (ps_set (i := 3) sc.nd rfl (.inl rfl) (pe_op op_mul pe_int (pe_op op_pow pe_int pe_int)))
    (pss_cons (ps_set (i := 4) sc.nd rfl (.inl rfl) (pe_lst pa_nil))
    (pss_cons (ps_set (i := 5) sc.nd rfl (.inl rfl) pe_int)
    (pss_cons (ps_set (i := 6) sc.nd rfl (.inl rfl) pe_int)
    (pss_cons (ps_for PassesOwn.never rfl (pi_range1 (by rfl) T.b_range (pa_cons (pe_cg G_l_many hr (by rfl) (pa_cons (pe_ix ix_tup (pv 0) pe_int (fun _ _ => rfl)) pa_nil)) pa_nil)) (pg_name (i := 7) sc.nd rfl (.inl rfl))
    (pss_cons (ps_set (i := 6) sc.nd rfl (.inl rfl) (pe_op op_add (pv 6) pe_int))
    (pss_cons (ps_if (pt_cmpR op_in_seq (pv 7) (pv 1) rfl)
    (pss_cons (ps_set (i := 5) sc.nd rfl (.inl rfl) (pe_op op_add (pv 5) (pv 3)))
    (pss_one (ps_set (i := 6) sc.nd rfl (.inl rfl) pe_int)))
    pss_nil)
    (pss_one (ps_expr (pe_bm PySem.F.plainAttrs_list PySem.F.slot_list_append PySem.F.type_list_append mt_append (pv 4) (pa_cons (pe_op op_add (pe_op op_add (pv 5) (pe_op op_mul (pv 6) (pe_op op_fdiv (pv 3) pe_int))) (pe_op op_mul (pe_op op_mul (pe_callTy call_intD (by rfl) T.b_int (by decide +kernel) (pa_cons (pe_cmpR op_gt (pv 6) pe_int (nomark _)) pa_nil)) (pv 2)) (pe_op op_fdiv (pv 3) pe_int))) pa_nil)))))))
    (pss_one (ps_ret (pe_cg G_l_spaced hr (by rfl) (pa_cons (pv 0) (pa_cons (pv 4) pa_nil)))))))))), ?_⟩
  refine' i_start (by walk_at "set") ?_
  walk_at "t"
  refine i_I ⟨by decide, by decide, by decide⟩ ?_
  refine i_I (.inl ⟨by decide, by decide⟩) ?_
  have eW : (4 * 10 ^ (60 : Int).toNat : Int) = wideC := rfl
  rw [eW]
  walk_at "t"
  refine g_lst (Nat.zero_le _) fun l1 H1 k1 n1 e1 => ?_
  walk_at "t"
  refine i_ixT (ha.up k1) ix1 fun w1 h1 => ?_
  walk_at "t"
  refine ⟨rs, w1, rfl, h1, by omega, fun H2 k2 => ?_⟩
  obtain ⟨nb, nxs, rfl, hb1, hb2⟩ := dt_tup hb
  have exs : nxs = found.map fun k => V.int (k : Nat) := by
    have e := hb2
    have z : ∀ {fs : List Nat} {vs : List V}, DtAll K H vs (fs.map fun k => PyData.int (k : Nat)) → vs = fs.map fun k => V.int (k : Nat) := by
      intro fs
      induction fs with
      | nil => intro vs h; cases h; rfl
      | cons f fs ih =>
        intro vs h
        cases h with
        | cons h1 h2 => rw [dt_int h1, ih h2]; rfl
    exact z e
  subst exs
  refine go_forR (k := many rs) rfl (by omega) (fun i σ H' => ∃ (y7 : Option V), σ = [some a, some (.ref nb), some (.int sh), some (.int wideC), some (.ref l1), some (.int (bm found i).1), some (.int (bm found i).2), y7] ∧ Kp [l1] H2 H' ∧ H' l1 = some (.lst (intsV i (plc found sh)))) ⟨none, rfl, Kp.refl, k2.get0 e1⟩ (fun i σ H3 hi pv => ?_) (fun σ H3 pv => ?_)
  · obtain ⟨y7, rfl, k3, e3⟩ := pv
    have bn := bm_nn found (i + 1)
    walk_at "u"
    walk_at "one"
    walk_at "sq"
    refine i_seqJ (fun σ' H' => σ' = [some a, some (.ref nb), some (.int sh), some (.int wideC), some (.ref l1), some (.int (bm found (i + 1)).1), some (.int (bm found (i + 1)).2), some (.int (i : Nat))] ∧ H3 = H') (fun σ H' hp => ?_) (fun nx hnx => ?_)
    · obtain ⟨rfl, rfl⟩ := hp
      walk_at "t"
      refine ⟨ty_lst (SqL.of e3), ?_⟩
      walk_at "t"
      refine i_I ⟨by decide, by decide⟩ ?_
      refine i_I (.inl ⟨by omega, by omega⟩) ?_
      walk_at "t"
      refine i_intb ?_
      walk_at "t"
      refine i_I (.inl ⟨by split <;> decide, by split <;> decide⟩) ?_
      walk_at "t"
      refine i_I ⟨by decide, by decide⟩ ?_
      have hsm : ∀ k : Bool, -(2 ^ 64) < (if k = true then (1 : Int) else 0) * sh ∧ (if k = true then (1 : Int) else 0) * sh < 2 ^ 64 := fun k => by
        rcases hsh with rfl | rfl <;> cases k <;> decide
      refine i_I (.inl (hsm _)) ?_
      walk_at "t"
      refine i_append e3 (by rw [intsV_len]; omega) fun H4 k4 e4 => ?_
      refine ⟨_, rfl, k3.trans k4, ?_⟩
      rw [e4]
      unfold intsV
      rw [List.range_succ, List.map_append]
      rfl
    · walk_at "t"
      have hb3 : SqT K H3 nb (found.map fun k => V.int (k : Nat)) := ((k1.any.trans k2.any : Kp [l1] H H2).trans k3).sqt hb1
      refine ⟨nb, _, rfl, .inr hb3, rfl, ?_, ?_⟩
      · rw [List.all_eq_true]
        intro y hy
        obtain ⟨z, _, rfl⟩ := List.mem_map.mp hy
        rfl
      rw [if_neg Bool.false_ne_true, in_found]
      walk_at "t"
      refine ite2 (fun e => ?_) (fun e => ?_)
      · have hm := of_decide_eq_true e
        walk_at "t"
        refine hnx _ _ ⟨?_, rfl⟩
        rw [show bm found (i + 1) = ((bm found i).1 + wideC, 0) from if_pos hm]
      · have hm : ¬ i ∈ found := fun z => e (decide_eq_true z)
        walk_at "t"
        refine hnx _ _ ⟨?_, rfl⟩
        rw [show bm found (i + 1) = ((bm found i).1, (bm found i).2 + 1) from if_neg hm]
  · obtain ⟨y7, rfl, k3, e3⟩ := pv
    walk_at "t"
    have kk : Kp [] H H3 := k1.fresh (k2.any.trans k3) fun z hz => .inr (by rw [List.mem_singleton.mp hz]; exact n1)
    exact ⟨s0, rs, many rs, plc found sh, a, l1, rfl, ha.up kk, e3, by omega, hrk, fun u H4 k4 hu => q u H4 (kk.trans k4) hu⟩
end
/-! ### the law -/
def spLaw (K : PySem.W.Frag) : Sp := fun vs H Q _ => ∃ (a : Addr) (ns : List Int), vs = [.ref a] ∧ SqL K H a (ns.map V.int) ∧ ns.length ≤ 63 ∧ ∀ H', Q (.bl true) H'
structure LogOk (t : Nat) (l : List (Nat × Int)) : Prop where
  tag : ∀ e ∈ l, e.1 < t
  len : l.length ≤ 60
theorem same_answers {m : Mach} {s : Nat} {rs : Held} {found : List Nat} {log : List (Nat × Int)} (mok : m.Ok) (kd : Kind m s rs) (hf : ∀ k, k < many rs → k ∉ found → Free m s rs k) (hl : LogOk m.tags log) :
    m.answers (s, withF rs (plc found 0)) log = m.answers (s, withF rs (plc found 1)) log := by
  have ml := many_le rs
  have rg := mok.regs
  have rl := kd.len
  exact enough (needs := fun k => k ∈ found) mok kd (fun k hk hn => hf k hk hn) (fun i j h hj => plc_lt found (.inl rfl) h (by omega)) (fun i j h hj => plc_lt found (.inr rfl) h (by omega)) (fun i _ => plc_le found i) (fun i _ h => plc_eq found h) log hl.tag
section
variable {P : Program} {w : World} {K : PySem.W.Frag} {mg : Str → Option Value} {base : Heap}
theorem ok_law {fL : Addr} {fdL : FuncData} (F : Fun K "law" "law" s_law fL fdL) (T : Tx mg) (G_l_draws : FG P w K mg base 1 "_law_draws" ["_law_script", "_law_many_here"] (spDraws K)) (G_l_take : FG P w K mg base 1 "_law_take" ["_law_draws_here", "_law_many_here"] spTake)
    (G_l_machine : FG P w K mg base 5 "_law_machine" ["_law_draws_here"] (spMach K 20)) (G_l_mapped : FG P w K mg base 5 "_law_mapped" ["_law_machine_here", "_law_places", "_law_registers", "_law_extra"] (spMapped K)) (G_l_any_type : FG P w K mg base 2 "_law_any_type" ["_law_draws_here", "_law_machine_here"] (spAny K))
    (G_needed : FG P w K mg base 10 "needed" ["machine", "kind"] (spNeeded K)) (G_l_placed : FG P w K mg base 2 "_law_placed" ["_law_kind", "_law_needs", "_law_shift"] (spPlaced K)) (G_l_near_log : FG P w K mg base 2 "_law_near_log" ["_law_draws_here", "_law_tags", "_law_content", "_law_other"] (spNear K))
    (G_l_log : FG P w K mg base 3 "_law_log" ["_law_script", "_law_draws_here", "_law_tags", "_law_most"] (spLog K)) (G_l_answers : FG P w K mg base 7 "_law_answers" ["_law_machine_here", "_law_content", "_law_log_here"] (spAnswers K)) : FnOk P w K mg base CX0 11 fL fdL ["_law_script"] (spLaw K) := by
  have G_l_draws := G_l_draws.mono (show 1 ≤ 10 by omega)
  have G_l_take := G_l_take.mono (show 1 ≤ 10 by omega)
  have G_l_machine := G_l_machine.mono (show 5 ≤ 10 by omega)
  have G_l_mapped := G_l_mapped.mono (show 5 ≤ 10 by omega)
  have G_l_any_type := G_l_any_type.mono (show 2 ≤ 10 by omega)
  have G_l_placed := G_l_placed.mono (show 2 ≤ 10 by omega)
  have G_l_near_log := G_l_near_log.mono (show 2 ≤ 10 by omega)
  have G_l_log := G_l_log.mono (show 3 ≤ 10 by omega)
  have G_l_answers := G_l_answers.mono (show 7 ≤ 10 by omega)
  refine F.ok sc_law (fun vs H Q E h => ?_) (fun cdv A outer s H vs Q E hr h => ?_)
  · obtain ⟨_, _, rfl, _⟩ := h
    rfl
  obtain ⟨ls, ns, rfl, hls, hlen, q⟩ := h
  have hu := hr.units
  have sc := sc_law
  refine ⟨_, (pss_cons (ps_set (i := 1) sc.nd rfl (.inr rfl) (pe_cg G_l_draws hr (by rfl) (pa_cons (pv 0) (pa_cons pe_int pa_nil))))
    (pss_cons (ps_set (i := 2) sc.nd rfl (.inr rfl) (pe_cg G_l_machine hr (by rfl) (pa_cons (pv 1) pa_nil)))
    (pss_cons (ps_if (PW.pt (pw_and (pt_cmpR op_eq (pe_cg G_l_take hr (by rfl) (pa_cons (pv 1) (pa_cons pe_int pa_nil))) pe_int (nomark _)) (pw_and1 (pt_cmpR op_lt (pe_ix ix_tup (pv 2) pe_int (fun _ _ => rfl)) pe_int (nomark _)))))
    (pss_one (ps_set (i := 2) sc.nd rfl (.inr rfl) (pe_cg G_l_mapped hr (by rfl) (pa_cons (pv 2) (pa_cons (pe_listRg rfl (by rfl) T.b_list (prg_1 (by rfl) T.b_range (pe_ix ix_tup (pv 2) pe_int (fun _ _ => rfl)))) (pa_cons (pe_op op_add (pe_ix ix_tup (pv 2) pe_int (fun _ _ => rfl)) pe_int) (pa_cons (pe_lst (pa_cons (pe_tup (pa_cons (pe_ix ix_tup (pv 2) pe_int (fun _ _ => rfl)) (pa_cons (pe_un un_neg pe_int) pa_nil))) pa_nil)) pa_nil)))))))
    pss_nil)
    (pss_cons (ps_for PassesOwn.never rfl (pi_range1 (by rfl) T.b_range (pa_cons (pe_op op_add pe_int (pe_cg G_l_take hr (by rfl) (pa_cons (pv 1) (pa_cons pe_int pa_nil)))) pa_nil)) (pg_name (i := 3) sc.nd rfl (.inl rfl))
    (pss_cons (ps_set (i := 4) sc.nd rfl (.inl rfl) (pe_cg G_l_any_type hr (by rfl) (pa_cons (pv 1) (pa_cons (pv 2) pa_nil))))
    (pss_cons (ps_set (i := 5) sc.nd rfl (.inl rfl) (pe_cg G_needed hr (by rfl) (pa_cons (pv 2) (pa_cons (pv 4) pa_nil))))
    (pss_cons (ps_set (i := 6) sc.nd rfl (.inr rfl) (pe_cg G_l_placed hr (by rfl) (pa_cons (pv 4) (pa_cons (pv 5) (pa_cons pe_int pa_nil)))))
    (pss_cons (ps_set (i := 7) sc.nd rfl (.inr rfl) (pe_cg G_l_placed hr (by rfl) (pa_cons (pv 4) (pa_cons (pv 5) (pa_cons pe_int pa_nil)))))
    (pss_cons (ps_setLc (i := 8) (te := (tCall _ [] E0 (tCons (tVar 1) (tCons (tOp (rIxT K) (tVar 2) (tC (.int 0))) (tCons (tVar 6) (tCons (tVar 7) tNil)))))) (own := [("_law_j", 10)]) rfl sc.nd rfl rfl (sw_true rfl rfl rfl (by decide +kernel)) (pi_range1 (by rfl) T.b_range (pa_cons pe_int pa_nil)) (blkOk_by (own := [("_law_j", 10)]) (N := ["_law_script", "_law_draws_here", "_law_machine_here", "_law_k", "_law_kind", "_law_needs", "_law_content", "_law_other", "_law_logs", "_law_log_here", "_law_j"]) (sc := defScope s_law) (by decide +kernel)) (fun _ _ _ _ _ => (pg_name (i := 10) sc.nd rfl (.inl rfl))) (fun _ _ _ _ _ => pts_nil) (fun _ _ _ _ _ => (pe_cg G_l_near_log hr (by rfl) (pa_cons (pv 1) (pa_cons (pe_ix ix_tup (pv 2) pe_int (fun _ _ => rfl)) (pa_cons (pv 6) (pa_cons (pv 7) pa_nil)))))))
    (pss_one (ps_for PassesOwn.never rfl (pi_list (pe_op op_cat (pv 8) (pe_lst (pa_cons (pe_cg G_l_log hr (by rfl) (pa_cons (pv 0) (pa_cons (pv 1) (pa_cons (pe_ix ix_tup (pv 2) pe_int (fun _ _ => rfl)) (pa_cons pe_int pa_nil))))) pa_nil)))) (pg_name (i := 9) sc.nd rfl (.inl rfl))
    (pss_one (ps_if (pt_cmpR (op_neD hu) (pe_cg G_l_answers hr (by rfl) (pa_cons (pv 2) (pa_cons (pv 6) (pa_cons (pv 9) pa_nil)))) (pe_cg G_l_answers hr (by rfl) (pa_cons (pv 2) (pa_cons (pv 7) (pa_cons (pv 9) pa_nil)))) (nomark _))
    (pss_one (ps_ret pe_bl))
    pss_nil))))))))))
    (pss_one (ps_ret pe_bl)))))), ?_⟩
  refine' i_start (by walk_at "set") ?_
  walk_at "t"
  refine ⟨ls, ns, rfl, hls, hlen, fun d H1 k1 nd hd1 => ?_⟩
  have script : ∀ H', Kp [d] H1 H' → SqL K H' ls (ns.map V.int) := fun H' k => sql_keep hls ((k1.any (N := [d])).trans k) nd
  walk_at "t"
  refine ⟨d, rfl, hd1, fun m0 u0 H2 mb0 hm0 k2 hd2 => ?_⟩
  walk_at "u"
  walk_at "sq"
  refine i_seqJ (fun σ' H' => ∃ (m : Mach) (u : V), σ' = [some (.ref ls), some (.ref d), some u, none, none, none, none, none, none, none, none] ∧ MkB 20 m ∧ Dt K H' u (machD m) ∧ Kp [d] H1 H' ∧ Dr H' d) (fun σ H3 hp => ?_) (fun nx hnx => ?_)
  · obtain ⟨m, u, rfl, mb, hm, k3, hd3⟩ := hp
    have mok := mb.ok (by decide)
    have rg := mok.regs
    walk_at "t"
    refine ⟨d, 2, rfl, hd3, by decide, fun x1 H4 z0 z1 k4 hd4 => ?_⟩
    obtain ⟨n, rfl⟩ : ∃ n : Nat, x1 = (n : Int) := ⟨x1.toNat, by omega⟩
    walk_at "t"
    refine go_forR (k := 1 + n) (by rw [Int.natCast_add]; rfl) (by omega) (fun i σ H' => ∃ (y3 y4 y5 y6 y7 y8 y9 y10 : Option V), σ = [some (.ref ls), some (.ref d), some u, y3, y4, y5, y6, y7, y8, y9, y10] ∧ Kp [d] H3 H' ∧ Dr H' d) ⟨none, none, none, none, none, none, none, none, rfl, k4, hd4⟩ (fun i σ H5 hi pv => ?_) (fun σ H5 pv => ?_)
    · obtain ⟨y3, y4, y5, y6, y7, y8, y9, y10, rfl, k5, hd5⟩ := pv
      have hm5 := hm.up k5
      walk_at "t"
      refine ⟨d, m, u, rfl, mok, hd5, hm5, fun s0 rs ku H6 kd hku k6 hd6 => ?_⟩
      walk_at "t"
      have rl : rs.length ≤ 2 := by rw [kd.len]; exact rg
      refine ⟨m, u, ku, s0, rs, rfl, hm5.up k6, mok, kd, hku, fun nu H7 found k7 hnu hfl hfree => ?_⟩
      walk_at "t"
      refine ⟨s0, rs, found, 0, ku, nu, rfl, hku.up k7, hnu, .inl rfl, rl, kd.rk, fun cu H8 k8 hcu => ?_⟩
      walk_at "t"
      refine ⟨s0, rs, found, 1, ku, nu, rfl, (hku.up k7).up k8, hnu.up k8, .inr rfl, rl, kd.rk, fun ou H9 k9 hou => ?_⟩
      walk_at "t"
      have k69 := (k7.trans k8).trans k9
      have hd9 := hd6.up0 k69
      have hm9 := (hm5.up k6).up k69
      have hcu9 := hcu.up k9
      have cl : ∀ sh, (withF rs (plc found sh)).length ≤ 20 := fun sh => by
        unfold withF
        rw [List.length_map]
        omega
      refine go_lcR (M := [d]) (k := 3) rfl (by omega) (fun i acc H' => Dr H' d ∧ ∃ logs : List (List (Nat × Int)), logs.length = i ∧ (∀ l ∈ logs, LogOk m.tags l) ∧ DtAll K H' acc (logs.map logD)) (fun i acc H1 H2 D hD k p => ⟨p.1.upD hd9 hD k, p.2.imp fun cs z => ⟨z.1, z.2.1, z.2.2.up k⟩⟩) ⟨hd9, [], rfl, fun _ z => (nomatch z), .nil⟩ (fun i acc H10 D hi k10 hD hacc hlt p R1 R0 r1 r0 => ?_) (fun l8 H10 acc k10 n10 e10 hle p => ?_)
      · obtain ⟨hd10, logs, hll, hlo, hda⟩ := p
        refine' t_yes (by decide) (by walk_at "set") ?_
        walk_at "t"
        refine i_ixTi (hm9.up k10) ix0 ?_
        walk_at "t"
        refine ⟨d, m.tags, cu, ou, _, _, rfl, mok.tags.1, hcu9.up k10, hou.up k10, cl 0, cl 1, hd10, fun log lu H11 ht hl hlu k11 hd11 => ?_⟩
        refine r1 lu H11 (k11.get (hd9.ne hD) hacc) (k10.trans k11) ⟨hd11, logs ++ [log], by rw [List.length_append, List.length_singleton, hll], fun l hl2 => ?_, ?_⟩
        · rcases List.mem_append.mp hl2 with z | z
          · exact hlo l z
          · rw [List.mem_singleton.mp z]; exact ⟨ht, hl⟩
        · rw [List.map_append]
          exact (hda.up k11).append (.one hlu)
      · obtain ⟨hd10, logs, hll, hlo, hda⟩ := p
        walk_at "t"
        have hm10 := hm9.up k10
        have k110 : Kp [d] H1 H10 := (((k3.trans k5).trans k6).trans k69.any).trans k10
        refine i_ixTi hm10 ix0 ?_
        walk_at "t"
        refine ⟨ls, d, m.tags, ns, rfl, mok.tags.1, fun H' k => script H' (k110.trans k), hd10, fun log lu H11 ht hl hlu k11 hd11 => ?_⟩
        walk_at "t"
        refine g_lst (by show 1 ≤ 100000; decide) fun l12 H12 k12 n12 e12 => ?_
        have la := hda.length
        rw [List.length_map] at la
        refine i_catL (k12.get0 (k11.get (hd9.ne n10) e10)) e12 (by show _ + 1 ≤ _; omega) fun l13 H13 k13 n13 e13 => ?_
        have k1013 : Kp [d] H10 H13 := k11.trans (k12.trans k13).any
        have hd13 := hd11.up0 (k12.trans k13)
        have hall : DtAll K H13 (acc ++ [lu]) ((logs ++ [log]).map logD) := by
          rw [List.map_append]
          exact (hda.up k1013).append (.one (hlu.up (k12.trans k13)))
        have lok : ∀ l ∈ logs ++ [log], LogOk m.tags l := fun l hl2 => by
          rcases List.mem_append.mp hl2 with z | z
          · exact hlo l z
          · rw [List.mem_singleton.mp z]; exact ⟨ht, hl⟩
        have hm13 := hm10.up k1013
        have hcu13 := (hcu9.up k10).up k1013
        have hou13 := (hou.up k10).up k1013
        have k313 : Kp [d] H3 H13 := (((k5.trans k6).trans k69.any).trans k10).trans k1013
        refine go_forL (xs := acc ++ [lu]) (SqL.of e13) (fun i2 σ H' => ∃ (y9 : Option V), σ = [some (.ref ls), some (.ref d), some u, some (.int (i : Nat)), some ku, some nu, some cu, some ou, some (.ref l8), y9, y10] ∧ Kp [] H13 H') ⟨y9, rfl, Kp.refl⟩ (fun i2 σ H' _ pv => ?_) (fun i2 lv σ H14 hi2 pv => ?_) (fun σ H14 pv => ?_)
        · obtain ⟨_, _, k⟩ := pv
          exact SqL.of (k.get0 e13)
        · obtain ⟨y9, rfl, k14⟩ := pv
          obtain ⟨dl, hdl, hlv⟩ := hall.of hi2
          rw [List.getElem?_map] at hdl
          obtain ⟨lg, hlg, rfl⟩ := Option.map_eq_some_iff.mp hdl
          have lgok := lok lg (List.mem_of_getElem? hlg)
          walk_at "t"
          refine ⟨m, (s0, withF rs (plc found 0)), lg, u, cu, lv, rfl, hm13.up k14, hcu13.up k14, hlv.up k14, mok, withF_in kd _, lgok.tag, lgok.len, fun a1 H15 k15 ha1 => ?_⟩
          walk_at "t"
          have k1315 := k14.trans k15
          refine ⟨m, (s0, withF rs (plc found 1)), lg, u, ou, lv, rfl, hm13.up k1315, hou13.up k1315, hlv.up k1315, mok, withF_in kd _, lgok.tag, lgok.len, fun a2 H16 k16 ha2 => ?_⟩
          refine i_neAs (ha1.up k16) ha2 ?_
          walk_at "t"
          refine ifF ?_ ?_
          · rw [decide_eq_true (same_answers mok kd hfree lgok)]
            rfl
          walk_at "t"
          exact ⟨_, rfl, k1315.trans k16⟩
        · obtain ⟨y9, rfl, k14⟩ := pv
          walk_at "t"
          exact ⟨_, _, _, _, _, _, _, _, rfl, k313.trans k14.any, hd13.up0 k14⟩
    · obtain ⟨y3, y4, y5, y6, y7, y8, y9, y10, rfl, k5, hd5⟩ := pv
      walk_at "t"
      exact q H5
  · walk_at "t"
    refine ⟨d, 4, rfl, hd2, by decide, fun x1 H3 z0 z1 k3 hd3 => ?_⟩
    have hm3 := hm0.up k3
    walk_at "t"
    refine ite2 (fun e => ?_) (fun e => ?_)
    · walk_at "t"
      refine i_ixTi hm3 ix1 ?_
      walk_at "t"
      refine ite2 (fun e2 => ?_) (fun e2 => ?_)
      · have hr2 : m0.regs < 2 := by
          have z := of_decide_eq_true e2
          omega
        walk_at "t"
        refine i_ixTi hm3 ix1 ?_
        refine g_lrg (by omega) fun lp H4 k4 n4 e4 => ?_
        walk_at "t"
        refine i_ixTi (hm3.up k4) ix1 ?_
        walk_at "t"
        refine i_ixTi (hm3.up k4) ix1 ?_
        walk_at "t"
        refine g_tup (K := K) (ds := [.int m0.regs, .int (-1)]) (.cons (.int _) (.one (.int _))) (by show 2 ≤ 100000; decide) fun v5 H5 k5 hv5 => ?_
        walk_at "t"
        refine g_lst (by show 1 ≤ 100000; decide) fun le H6 k6 n6 e6 => ?_
        walk_at "t"
        have k36 := (k4.trans k5).trans k6
        refine ⟨m0, 20, u0, v5, lp, le, rfl, hm3.up k36, mb0, by decide, hr2, (k5.trans k6).get0 e4, e6, hv5.up k6, fun m' u' H7 mb' hu' k7 => ?_⟩
        walk_at "t"
        exact hnx _ _ ⟨m', u', rfl, mb', hu', ((k2.trans k3).trans k36.any).trans k7.any, (hd3.up0 k36).up0 k7⟩
      · walk_at "t"
        exact hnx _ _ ⟨m0, u0, rfl, mb0, hm3, k2.trans k3, hd3⟩
    · refine ifF rfl ?_
      walk_at "t"
      exact hnx _ _ ⟨m0, u0, rfl, mb0, hm3, k2.trans k3, hd3⟩
end
/-! ### what the top has written -/
section
variable {K : PySem.W.Frag} {mg : Str → Option Value} {h : Heap} {x qual : Str} {st : Stmt} {ps : List Str} {f C : Addr} {oc kV dc pm cd ct : Value} {od an : Option Addr} {sl : Array (Option Value)}
theorem tc_mk (X : K.In h) (G : h.Ns mainGlobals mg) (aC : PySem.W.nsIn K mainGlobals "Pair" = some (some (.ref C))) (pg : PySem.W.plainGet K C Str.empty = true) (hd : PySem.W.hasDictIn K C = true) (po : PySem.W.plainOver K C = true) (sa : PySem.W.findIn K (.ref C) "__setattr__" = some (some (.builtin "object.__setattr__")))
    (n1 : PySem.W.findIn K (.ref C) "one" = some none) (n2 : PySem.W.findIn K (.ref C) "other" = some none) (n3 : PySem.W.findIn K (.ref C) "closed" = some none) (mk : PySem.W.makesIn K C = true) (kc : PySem.W.keepIn K (.ref C) = true) : TC K mg C :=
  ⟨⟨pg, hd, po, sa⟩, n1, n2, n3, PySem.W.mg_of X G aC, mk, kc⟩
theorem int_mk {u : Value} {i : Int} (X : K.In h) (G : h.Ns mainGlobals mg) (a : PySem.W.nsIn K mainGlobals x = some (some u)) (e : ∃ t, u = .int i t) : ∃ t, mg x = some (.int i t) := by
  obtain ⟨t, rfl⟩ := e
  exact ⟨t, PySem.W.mg_of X G a⟩
theorem ft_mk (b : ∀ fd, Fun K x x st f fd → Binds K fd ps []) (X : K.In h) (G : h.Ns mainGlobals mg) (a : PySem.W.nsIn K mainGlobals x = some (some (.ref f)))
    (l : K.lookup f = some ⟨oc, od, .func (PySem.W.fnOf x x (defArgs st) (defBody st) (defScope st) .none kV dc pm an cd ct), sl⟩) (c : PySem.W.codeIn K cd x = true) (k : PySem.W.keepIn K (.ref f) = true) : FT K mg x st ps :=
  ⟨f, _, fun_mk l c k, PySem.W.mg_of X G a, b _ (fun_mk l c k)⟩
theorem mt_mk (b : ∀ fd, Fun K x qual st f fd → Binds K fd ps []) (a : PySem.W.findIn K (.ref C) x = some (some (.ref f))) (i : PySem.W.isFn K (.ref f) = true)
    (l : K.lookup f = some ⟨oc, od, .func (PySem.W.fnOf x qual (defArgs st) (defBody st) (defScope st) .none kV dc pm an cd ct), sl⟩) (c : PySem.W.codeIn K cd qual = true) (k : PySem.W.keepIn K (.ref f) = true) : MT K C x qual st ps :=
  ⟨f, _, fun_mk l c k, ⟨a, i, k⟩, b _ (fun_mk l c k)⟩
end
section
variable {K : PySem.W.Frag} {f : Addr}
theorem fb_value_at (fd : FuncData) (F : Fun K "value_at" "value_at" s_value_at f fd) : Binds K fd ["source", "value", "held"] [] := F.binds fun _ _ _ _ _ _ us hl => match us, hl with | [_, _, _], _ => rfl
theorem fb_holds (fd : FuncData) (F : Fun K "holds" "holds" s_holds f fd) : Binds K fd ["condition", "value", "held"] [] := F.binds fun _ _ _ _ _ _ us hl => match us, hl with | [_, _, _], _ => rfl
theorem fb_case_for (fd : FuncData) (F : Fun K "case_for" "case_for" s_case_for f fd) : Binds K fd ["machine", "content", "entry"] [] := F.binds fun _ _ _ _ _ _ us hl => match us, hl with | [_, _, _], _ => rfl
theorem fb_read (fd : FuncData) (F : Fun K "read" "read" s_read f fd) : Binds K fd ["machine", "content", "entry"] [] := F.binds fun _ _ _ _ _ _ us hl => match us, hl with | [_, _, _], _ => rfl
theorem fb_ranks_of (fd : FuncData) (F : Fun K "ranks_of" "ranks_of" s_ranks_of f fd) : Binds K fd ["held"] [] := F.binds fun _ _ _ _ _ _ us hl => match us, hl with | [_], _ => rfl
theorem fb_spots_of (fd : FuncData) (F : Fun K "spots_of" "spots_of" s_spots_of f fd) : Binds K fd ["ranks"] [] := F.binds fun _ _ _ _ _ _ us hl => match us, hl with | [_], _ => rfl
theorem fb_with_values (fd : FuncData) (F : Fun K "with_values" "with_values" s_with_values f fd) : Binds K fd ["kind", "values"] [] := F.binds fun _ _ _ _ _ _ us hl => match us, hl with | [_, _], _ => rfl
theorem fb_needed_by (fd : FuncData) (F : Fun K "needed_by" "needed_by" s_needed_by f fd) : Binds K fd ["pair", "kind"] [] := F.binds fun _ _ _ _ _ _ us hl => match us, hl with | [_, _], _ => rfl
theorem fb_needed (fd : FuncData) (F : Fun K "needed" "needed" s_needed f fd) : Binds K fd ["machine", "kind"] [] := F.binds fun _ _ _ _ _ _ us hl => match us, hl with | [_, _], _ => rfl
theorem fb_l_draws (fd : FuncData) (F : Fun K "_law_draws" "_law_draws" s_l_draws f fd) : Binds K fd ["_law_script", "_law_many_here"] [] := F.binds fun _ _ _ _ _ _ us hl => match us, hl with | [_, _], _ => rfl
theorem fb_l_take (fd : FuncData) (F : Fun K "_law_take" "_law_take" s_l_take f fd) : Binds K fd ["_law_draws_here", "_law_many_here"] [] := F.binds fun _ _ _ _ _ _ us hl => match us, hl with | [_, _], _ => rfl
theorem fb_l_cell (fd : FuncData) (F : Fun K "_law_cell" "_law_cell" s_l_cell f fd) : Binds K fd ["_law_script", "_law_draws_here"] [] := F.binds fun _ _ _ _ _ _ us hl => match us, hl with | [_, _], _ => rfl
theorem fb_l_condition (fd : FuncData) (F : Fun K "_law_condition" "_law_condition" s_l_condition f fd) : Binds K fd ["_law_draws_here", "_law_registers", "_law_depth"] [] := F.binds fun _ _ _ _ _ _ us hl => match us, hl with | [_, _, _], _ => rfl
theorem fb_l_drawn_case (fd : FuncData) (F : Fun K "_law_drawn_case" "_law_drawn_case" s_l_drawn_case f fd) : Binds K fd ["_law_draws_here", "_law_registers", "_law_standings", "_law_condition_here"] [] := F.binds fun _ _ _ _ _ _ us hl => match us, hl with | [_, _, _, _], _ => rfl
theorem fb_l_drawn_machine (fd : FuncData) (F : Fun K "_law_drawn_machine" "_law_drawn_machine" s_l_drawn_machine f fd) : Binds K fd ["_law_draws_here", "_law_tags", "_law_registers", "_law_standings"] [] := F.binds fun _ _ _ _ _ _ us hl => match us, hl with | [_, _, _, _], _ => rfl
theorem fb_l_shaped_machine (fd : FuncData) (F : Fun K "_law_shaped_machine" "_law_shaped_machine" s_l_shaped_machine f fd) : Binds K fd ["_law_draws_here"] [] := F.binds fun _ _ _ _ _ _ us hl => match us, hl with | [_], _ => rfl
theorem fb_l_with_case (fd : FuncData) (F : Fun K "_law_with_case" "_law_with_case" s_l_with_case f fd) : Binds K fd ["_law_machine_here", "_law_standing", "_law_tag", "_law_cases"] [] := F.binds fun _ _ _ _ _ _ us hl => match us, hl with | [_, _, _, _], _ => rfl
theorem fb_l_changed (fd : FuncData) (F : Fun K "_law_changed" "_law_changed" s_l_changed f fd) : Binds K fd ["_law_draws_here", "_law_machine_here"] [] := F.binds fun _ _ _ _ _ _ us hl => match us, hl with | [_, _], _ => rfl
theorem fb_l_machine (fd : FuncData) (F : Fun K "_law_machine" "_law_machine" s_l_machine f fd) : Binds K fd ["_law_draws_here"] [] := F.binds fun _ _ _ _ _ _ us hl => match us, hl with | [_], _ => rfl
theorem fb_l_with_tag (fd : FuncData) (F : Fun K "_law_with_tag" "_law_with_tag" s_l_with_tag f fd) : Binds K fd ["_law_draws_here", "_law_machine_here"] [] := F.binds fun _ _ _ _ _ _ us hl => match us, hl with | [_, _], _ => rfl
theorem fb_l_at (fd : FuncData) (F : Fun K "_law_at" "_law_at" s_l_at f fd) : Binds K fd ["_law_source", "_law_value", "_law_held"] [] := F.binds fun _ _ _ _ _ _ us hl => match us, hl with | [_, _, _], _ => rfl
theorem fb_l_holds (fd : FuncData) (F : Fun K "_law_holds" "_law_holds" s_l_holds f fd) : Binds K fd ["_law_condition_here", "_law_value", "_law_held"] [] := F.binds fun _ _ _ _ _ _ us hl => match us, hl with | [_, _, _], _ => rfl
theorem fb_l_case (fd : FuncData) (F : Fun K "_law_case" "_law_case" s_l_case f fd) : Binds K fd ["_law_machine_here", "_law_content", "_law_entry"] [] := F.binds fun _ _ _ _ _ _ us hl => match us, hl with | [_, _, _], _ => rfl
theorem fb_l_read (fd : FuncData) (F : Fun K "_law_read" "_law_read" s_l_read f fd) : Binds K fd ["_law_machine_here", "_law_content", "_law_entry"] [] := F.binds fun _ _ _ _ _ _ us hl => match us, hl with | [_, _, _], _ => rfl
theorem fb_l_ranks (fd : FuncData) (F : Fun K "_law_ranks" "_law_ranks" s_l_ranks f fd) : Binds K fd ["_law_held"] [] := F.binds fun _ _ _ _ _ _ us hl => match us, hl with | [_], _ => rfl
theorem fb_l_many (fd : FuncData) (F : Fun K "_law_many" "_law_many" s_l_many f fd) : Binds K fd ["_law_ranks_here"] [] := F.binds fun _ _ _ _ _ _ us hl => match us, hl with | [_], _ => rfl
theorem fb_l_answers (fd : FuncData) (F : Fun K "_law_answers" "_law_answers" s_l_answers f fd) : Binds K fd ["_law_machine_here", "_law_content", "_law_log_here"] [] := F.binds fun _ _ _ _ _ _ us hl => match us, hl with | [_, _, _], _ => rfl
theorem fb_l_log (fd : FuncData) (F : Fun K "_law_log" "_law_log" s_l_log f fd) : Binds K fd ["_law_script", "_law_draws_here", "_law_tags", "_law_most"] [] := F.binds fun _ _ _ _ _ _ us hl => match us, hl with | [_, _, _, _], _ => rfl
theorem fb_l_spaced (fd : FuncData) (F : Fun K "_law_spaced" "_law_spaced" s_l_spaced f fd) : Binds K fd ["_law_kind", "_law_values"] [] := F.binds fun _ _ _ _ _ _ us hl => match us, hl with | [_, _], _ => rfl
theorem fb_l_placed (fd : FuncData) (F : Fun K "_law_placed" "_law_placed" s_l_placed f fd) : Binds K fd ["_law_kind", "_law_needs", "_law_shift"] [] := F.binds fun _ _ _ _ _ _ us hl => match us, hl with | [_, _, _], _ => rfl
theorem fb_l_renamed_condition (fd : FuncData) (F : Fun K "_law_renamed_condition" "_law_renamed_condition" s_l_renamed_condition f fd) : Binds K fd ["_law_condition_here", "_law_places"] [] := F.binds fun _ _ _ _ _ _ us hl => match us, hl with | [_, _], _ => rfl
theorem fb_l_place (fd : FuncData) (F : Fun K "_law_place" "_law_place" s_l_place f fd) : Binds K fd ["_law_place_here", "_law_places"] [] := F.binds fun _ _ _ _ _ _ us hl => match us, hl with | [_, _], _ => rfl
theorem fb_l_mapped (fd : FuncData) (F : Fun K "_law_mapped" "_law_mapped" s_l_mapped f fd) : Binds K fd ["_law_machine_here", "_law_places", "_law_registers", "_law_extra"] [] := F.binds fun _ _ _ _ _ _ us hl => match us, hl with | [_, _, _, _], _ => rfl
theorem fb_l_any_type (fd : FuncData) (F : Fun K "_law_any_type" "_law_any_type" s_l_any_type f fd) : Binds K fd ["_law_draws_here", "_law_machine_here"] [] := F.binds fun _ _ _ _ _ _ us hl => match us, hl with | [_, _], _ => rfl
theorem fb_l_near_log (fd : FuncData) (F : Fun K "_law_near_log" "_law_near_log" s_l_near_log f fd) : Binds K fd ["_law_draws_here", "_law_tags", "_law_content", "_law_other"] [] := F.binds fun _ _ _ _ _ _ us hl => match us, hl with | [_, _, _, _], _ => rfl
theorem fb___init__ (fd : FuncData) (F : Fun K "__init__" "Pair.__init__" s___init__ f fd) : Binds K fd ["self", "one", "other"] [] := F.binds fun _ _ _ _ _ _ us hl => match us, hl with | [_, _, _], _ => rfl
theorem fb_joint_type (fd : FuncData) (F : Fun K "joint_type" "Pair.joint_type" s_joint_type f fd) : Binds K fd ["self", "content", "another"] [] := F.binds fun _ _ _ _ _ _ us hl => match us, hl with | [_, _, _], _ => rfl
theorem fb_contents (fd : FuncData) (F : Fun K "contents" "Pair.contents" s_contents f fd) : Binds K fd ["self", "joint"] [] := F.binds fun _ _ _ _ _ _ us hl => match us, hl with | [_, _], _ => rfl
theorem fb_after (fd : FuncData) (F : Fun K "after" "Pair.after" s_after f fd) : Binds K fd ["self", "joint", "tag", "spot"] [] := F.binds fun _ _ _ _ _ _ us hl => match us, hl with | [_, _, _, _], _ => rfl
theorem fb_is_parted (fd : FuncData) (F : Fun K "is_parted" "Pair.is_parted" s_is_parted f fd) : Binds K fd ["self", "content", "another"] [] := F.binds fun _ _ _ _ _ _ us hl => match us, hl with | [_, _, _], _ => rfl
end
structure All (K : PySem.W.Frag) (mg : Str → Option Value) (C : Addr) : Prop where
  T : Tx mg
  Tc : TC K mg C
  F_value_at : FT K mg "value_at" s_value_at ["source", "value", "held"]
  F_holds : FT K mg "holds" s_holds ["condition", "value", "held"]
  F_case_for : FT K mg "case_for" s_case_for ["machine", "content", "entry"]
  F_read : FT K mg "read" s_read ["machine", "content", "entry"]
  F_ranks_of : FT K mg "ranks_of" s_ranks_of ["held"]
  F_spots_of : FT K mg "spots_of" s_spots_of ["ranks"]
  F_with_values : FT K mg "with_values" s_with_values ["kind", "values"]
  F_needed_by : FT K mg "needed_by" s_needed_by ["pair", "kind"]
  F_needed : FT K mg "needed" s_needed ["machine", "kind"]
  F_l_draws : FT K mg "_law_draws" s_l_draws ["_law_script", "_law_many_here"]
  F_l_take : FT K mg "_law_take" s_l_take ["_law_draws_here", "_law_many_here"]
  F_l_cell : FT K mg "_law_cell" s_l_cell ["_law_script", "_law_draws_here"]
  F_l_condition : FT K mg "_law_condition" s_l_condition ["_law_draws_here", "_law_registers", "_law_depth"]
  F_l_drawn_case : FT K mg "_law_drawn_case" s_l_drawn_case ["_law_draws_here", "_law_registers", "_law_standings", "_law_condition_here"]
  F_l_drawn_machine : FT K mg "_law_drawn_machine" s_l_drawn_machine ["_law_draws_here", "_law_tags", "_law_registers", "_law_standings"]
  F_l_shaped_machine : FT K mg "_law_shaped_machine" s_l_shaped_machine ["_law_draws_here"]
  F_l_with_case : FT K mg "_law_with_case" s_l_with_case ["_law_machine_here", "_law_standing", "_law_tag", "_law_cases"]
  F_l_changed : FT K mg "_law_changed" s_l_changed ["_law_draws_here", "_law_machine_here"]
  F_l_machine : FT K mg "_law_machine" s_l_machine ["_law_draws_here"]
  F_l_with_tag : FT K mg "_law_with_tag" s_l_with_tag ["_law_draws_here", "_law_machine_here"]
  F_l_at : FT K mg "_law_at" s_l_at ["_law_source", "_law_value", "_law_held"]
  F_l_holds : FT K mg "_law_holds" s_l_holds ["_law_condition_here", "_law_value", "_law_held"]
  F_l_case : FT K mg "_law_case" s_l_case ["_law_machine_here", "_law_content", "_law_entry"]
  F_l_read : FT K mg "_law_read" s_l_read ["_law_machine_here", "_law_content", "_law_entry"]
  F_l_ranks : FT K mg "_law_ranks" s_l_ranks ["_law_held"]
  F_l_many : FT K mg "_law_many" s_l_many ["_law_ranks_here"]
  F_l_answers : FT K mg "_law_answers" s_l_answers ["_law_machine_here", "_law_content", "_law_log_here"]
  F_l_log : FT K mg "_law_log" s_l_log ["_law_script", "_law_draws_here", "_law_tags", "_law_most"]
  F_l_spaced : FT K mg "_law_spaced" s_l_spaced ["_law_kind", "_law_values"]
  F_l_placed : FT K mg "_law_placed" s_l_placed ["_law_kind", "_law_needs", "_law_shift"]
  F_l_renamed_condition : FT K mg "_law_renamed_condition" s_l_renamed_condition ["_law_condition_here", "_law_places"]
  F_l_place : FT K mg "_law_place" s_l_place ["_law_place_here", "_law_places"]
  F_l_mapped : FT K mg "_law_mapped" s_l_mapped ["_law_machine_here", "_law_places", "_law_registers", "_law_extra"]
  F_l_any_type : FT K mg "_law_any_type" s_l_any_type ["_law_draws_here", "_law_machine_here"]
  F_l_near_log : FT K mg "_law_near_log" s_l_near_log ["_law_draws_here", "_law_tags", "_law_content", "_law_other"]
  M___init__ : MT K C "__init__" "Pair.__init__" s___init__ ["self", "one", "other"]
  M_joint_type : MT K C "joint_type" "Pair.joint_type" s_joint_type ["self", "content", "another"]
  M_contents : MT K C "contents" "Pair.contents" s_contents ["self", "joint"]
  M_after : MT K C "after" "Pair.after" s_after ["self", "joint", "tag", "spot"]
  M_is_parted : MT K C "is_parted" "Pair.is_parted" s_is_parted ["self", "content", "another"]
theorem all_ok {P : Program} {w : World} {K : PySem.W.Frag} {mg : Str → Option Value} {base : Heap} {C f : Addr} {fd : FuncData} (Z : All K mg C) (F : Fun K "law" "law" s_law f fd) : FnOk P w K mg base CX0 11 f fd ["_law_script"] (spLaw K) := by
  obtain ⟨T, Tc, F_value_at, F_holds, F_case_for, F_read, F_ranks_of, F_spots_of, F_with_values, F_needed_by, F_needed, F_l_draws, F_l_take, F_l_cell, F_l_condition, F_l_drawn_case, F_l_drawn_machine, F_l_shaped_machine, F_l_with_case, F_l_changed, F_l_machine, F_l_with_tag, F_l_at, F_l_holds, F_l_case, F_l_read, F_l_ranks, F_l_many, F_l_answers, F_l_log, F_l_spaced, F_l_placed, F_l_renamed_condition, F_l_place, F_l_mapped, F_l_any_type, F_l_near_log, M___init__, M_joint_type, M_contents, M_after, M_is_parted⟩ := Z
  have g_value_at := ok_value (P := P) (w := w) (base := base) F_value_at T
  have g_holds := ok_holds (P := P) (w := w) (base := base) F_holds T g_value_at 3
  have g_case_for := ok_case_for (P := P) (w := w) (base := base) F_case_for T g_holds
  have g_read := ok_read (P := P) (w := w) (base := base) F_read T g_case_for g_value_at
  have g_ranks_of := ok_ranks_of (P := P) (w := w) (base := base) F_ranks_of T
  have g_spots_of := ok_spots_of (P := P) (w := w) (base := base) F_spots_of T
  have g_l_many := ok_l_many (P := P) (w := w) (base := base) F_l_many T
  have g_l_ranks := ok_l_ranks (P := P) (w := w) (base := base) F_l_ranks T
  have g_l_at := ok_l_at (P := P) (w := w) (base := base) F_l_at T
  have g_l_holds := ok_l_holds (P := P) (w := w) (base := base) F_l_holds T g_l_at 3
  have g_l_case := ok_l_case (P := P) (w := w) (base := base) F_l_case T g_l_holds
  have g_l_read := ok_l_read (P := P) (w := w) (base := base) F_l_read T g_l_case g_l_at
  have g_l_answers := ok_l_answers (P := P) (w := w) (base := base) F_l_answers T g_l_read
  have g_init := ok_init (P := P) (w := w) (base := base) M___init__ T Tc
  have g_joint_type := ok_joint_type (P := P) (w := w) (base := base) M_joint_type T g_ranks_of
  have g_contents := ok_contents (P := P) (w := w) (base := base) M_contents T Tc
  have g_after := ok_after (P := P) (w := w) (base := base) M_after T Tc g_contents g_joint_type g_read
  have g_is_parted := ok_is_parted (P := P) (w := w) (base := base) M_is_parted T Tc g_after g_joint_type g_spots_of
  have g_with_values := ok_with_values (P := P) (w := w) (base := base) F_with_values T
  have g_needed_by := ok_needed_by (P := P) (w := w) (base := base) F_needed_by T Tc g_is_parted g_with_values g_spots_of
  have g_needed := ok_needed (P := P) (w := w) (base := base) F_needed T Tc g_init g_needed_by
  have g_l_take := ok_l_take (P := P) (w := w) (base := base) F_l_take T
  have g_l_cell := ok_l_cell (P := P) (w := w) (base := base) F_l_cell T g_l_take
  have g_l_draws := ok_l_draws (P := P) (w := w) (base := base) F_l_draws T
  have g_l_condition := ok_l_condition (P := P) (w := w) (base := base) F_l_condition T g_l_take 2
  have g_l_drawn_case := ok_l_drawn_case (P := P) (w := w) (base := base) F_l_drawn_case T g_l_take
  have g_l_drawn_machine := ok_l_drawn_machine (P := P) (w := w) (base := base) F_l_drawn_machine T g_l_take g_l_condition g_l_drawn_case
  have g_l_with_case := ok_l_with_case (P := P) (w := w) (base := base) F_l_with_case T
  have g_l_shaped_machine := ok_l_shaped_machine (P := P) (w := w) (base := base) F_l_shaped_machine T g_l_take
  have g_l_changed := ok_l_changed (P := P) (w := w) (base := base) F_l_changed T g_l_take g_l_condition g_l_drawn_case g_l_with_case
  have g_l_with_tag := ok_l_with_tag (P := P) (w := w) (base := base) F_l_with_tag T g_l_condition g_l_drawn_case
  have g_l_machine := ok_l_machine (P := P) (w := w) (base := base) F_l_machine T g_l_take g_l_drawn_machine g_l_shaped_machine g_l_changed g_l_with_tag
  have g_l_place := ok_l_place (P := P) (w := w) (base := base) F_l_place T
  have g_l_ren := ok_l_ren (P := P) (w := w) (base := base) F_l_renamed_condition T g_l_place 3
  have g_l_mapped := ok_l_mapped (P := P) (w := w) (base := base) F_l_mapped T g_l_place g_l_ren
  have g_l_any_type := ok_l_any_type (P := P) (w := w) (base := base) F_l_any_type T g_l_take g_l_ranks
  have g_l_log := ok_l_log (P := P) (w := w) (base := base) F_l_log T g_l_take g_l_cell
  have g_l_spaced := ok_l_spaced (P := P) (w := w) (base := base) F_l_spaced T
  have g_l_near_log := ok_l_near_log (P := P) (w := w) (base := base) F_l_near_log T g_l_take
  have g_l_placed := ok_l_placed (P := P) (w := w) (base := base) F_l_placed T g_l_many g_l_spaced
  exact ok_law F T g_l_draws g_l_take g_l_machine g_l_mapped g_l_any_type g_needed g_l_placed g_l_near_log g_l_log g_l_answers
theorem finish {l : PySem.W.OpenLaw} {w : World} {K : PySem.W.Frag} {h : Heap} {mg : Str → Option Value} {fa fL C : Addr} {oc kV dc pm cd ct : Value} {od an : Option Addr} {sl : Array (Option Value)} (X : K.In h) (G : h.Ns mainGlobals mg) (hfa : mg "law" = some (.ref fa))
    (aL : PySem.W.nsIn K mainGlobals "law" = some (some (.ref fL))) (lL : K.lookup fL = some ⟨oc, od, .func (PySem.W.fnOf "law" "law" (defArgs s_law) (defBody s_law) (defScope s_law) .none kV dc pm an cd ct), sl⟩) (cL : PySem.W.codeIn K cd "law" = true) (kL : PySem.W.keepIn K (.ref fL) = true)
    (Z : All K mg C) :
    ∃ fd : FuncData, (∀ (s : Shared) (v : Value), BindsTo s fd ⟨[v], []⟩ [("_law_script", v)]) ∧ ∀ base : Heap, K.In base → base.Ns mainGlobals mg → FnOk l.prog w K mg base CX0 11 fa fd ["_law_script"] (spLaw K) := by
  have e := hfa.symm.trans (PySem.W.mg_of X G aL)
  cases e
  exact ⟨PySem.W.fnOf "law" "law" (defArgs s_law) (defBody s_law) (defScope s_law) .none kV dc pm an cd ct, fun s v => .of_eq rfl, fun base _ _ => all_ok Z (fun_mk (st := s_law) lL cL kL)⟩
theorem walk {l : PySem.W.OpenLaw} {q : Program} {loose : List Str} {XP : (Str → Option Value) → Heap → Prop} {YP : World → Heap → Prop} {d : DefRec} {K : Params → PySem.W.Frag} (hn : l.most = some 63) (hdf : d.params.defaults = [])
    (hY : ∀ (w : World) (h : Heap), YP w h → (K w.params).In h)
    (F : ∀ (w : World) (mg : Str → Option Value) (fa : Addr) (h : Heap), (K w.params).In h → h.Ns mainGlobals mg → mg d.name = some (.ref fa) →
      ∃ fd : FuncData, (∀ (s : Shared) (u : Value), BindsTo s fd ⟨[u], []⟩ [("_law_script", u)]) ∧ ∀ base : Heap, (K w.params).In base → base.Ns mainGlobals mg → FnOk l.prog w (K w.params) mg base CX0 11 fa fd ["_law_script"] (spLaw (K w.params))) :
    PySem.W.WalkO q loose XP YP l.row.toRowW d [] (fun f vs => PySem.call f vs) :=
  L2.walk_of (n := 63) (k := 11) (x := "_law_script") (CX := fun _ => CX0) (sp := fun w => spLaw (K w.params)) hn (by decide) hdf ⟨rfl, by decide, by decide⟩ hY F (fun _ _ a ns hl _ hS => ⟨a, ns, rfl, hS, hl, fun _ => rfl⟩) fun _ _ _ _ _ z => z
end K58
open PySem PySem.W PyProof.Rows in
set_option maxRecDepth 100000 in
set_option maxHeartbeats 0 in
theorem PySem.Challenge.cw_anyvalues_k58_whole_needed_values_are_en_holds : PySem.Challenge.rw_anyvalues_k58_whole_needed_values_are_en.Holds := by
  w_on; o_law; k_head; (case hw => w_witness2)
  k_fill
  refine K58.walk (l := PySem.Challenge.rw_anyvalues_k58_whole_needed_values_are_en) rfl rfl (fun w h Y => PySem.W.kIn_of Y) ?F
  case F =>
    intro w mg fa h KX G hmg
    refine' K58.finish KX G hmg ?aL ?lL ?cL ?kL ⟨?T, ?Tc, ?F_value_at, ?F_holds, ?F_case_for, ?F_read, ?F_ranks_of, ?F_spots_of, ?F_with_values, ?F_needed_by, ?F_needed, ?F_l_draws, ?F_l_take, ?F_l_cell, ?F_l_condition, ?F_l_drawn_case, ?F_l_drawn_machine, ?F_l_shaped_machine, ?F_l_with_case, ?F_l_changed, ?F_l_machine, ?F_l_with_tag, ?F_l_at, ?F_l_holds, ?F_l_case, ?F_l_read, ?F_l_ranks, ?F_l_many, ?F_l_answers, ?F_l_log, ?F_l_spaced, ?F_l_placed, ?F_l_renamed_condition, ?F_l_place, ?F_l_mapped, ?F_l_any_type, ?F_l_near_log, ?M___init__, ?M_joint_type, ?M_contents, ?M_after, ?M_is_parted⟩
    (case aL => k_is)
    (case lL => k_is)
    (case cL => k_is)
    (case kL => k_is)
    (case Tc =>
      refine' K58.tc_mk KX G ?aC ?pg ?hd ?po ?sa ?n1 ?n2 ?n3 ?mk ?kc
      (case aC => k_is)
      (case pg => k_is)
      (case hd => k_is)
      (case po => k_is)
      (case sa => k_is)
      (case n1 => k_is)
      (case n2 => k_is)
      (case n3 => k_is)
      (case mk => k_is)
      (case kc => k_is))
    (case T =>
      refine' ⟨PySem.W.mg_none_of KX G ?z0, PySem.W.mg_none_of KX G ?z1, PySem.W.mg_none_of KX G ?z2, PySem.W.mg_none_of KX G ?z3, PySem.W.mg_none_of KX G ?z4, PySem.W.mg_none_of KX G ?z5, PySem.W.mg_none_of KX G ?z6, PySem.W.mg_none_of KX G ?z7, PySem.W.mg_none_of KX G ?z8, PySem.W.mg_none_of KX G ?z9, K58.int_mk KX G ?r1 ?e1, K58.int_mk KX G ?r2 ?e2⟩
      (case z0 => k_is)
      (case z1 => k_is)
      (case z2 => k_is)
      (case z3 => k_is)
      (case z4 => k_is)
      (case z5 => k_is)
      (case z6 => k_is)
      (case z7 => k_is)
      (case z8 => k_is)
      (case z9 => k_is)
      (case r1 => k_is)
      (case r2 => k_is)
      (case e1 => exact ⟨_, rfl⟩)
      (case e2 => exact ⟨_, rfl⟩))
    (case F_value_at =>
      refine' K58.ft_mk K58.fb_value_at KX G ?a ?l ?c ?k
      (case a => k_is)
      (case l => k_is)
      (case c => k_is)
      (case k => k_is))
    (case F_holds =>
      refine' K58.ft_mk K58.fb_holds KX G ?a ?l ?c ?k
      (case a => k_is)
      (case l => k_is)
      (case c => k_is)
      (case k => k_is))
    (case F_case_for =>
      refine' K58.ft_mk K58.fb_case_for KX G ?a ?l ?c ?k
      (case a => k_is)
      (case l => k_is)
      (case c => k_is)
      (case k => k_is))
    (case F_read =>
      refine' K58.ft_mk K58.fb_read KX G ?a ?l ?c ?k
      (case a => k_is)
      (case l => k_is)
      (case c => k_is)
      (case k => k_is))
    (case F_ranks_of =>
      refine' K58.ft_mk K58.fb_ranks_of KX G ?a ?l ?c ?k
      (case a => k_is)
      (case l => k_is)
      (case c => k_is)
      (case k => k_is))
    (case F_spots_of =>
      refine' K58.ft_mk K58.fb_spots_of KX G ?a ?l ?c ?k
      (case a => k_is)
      (case l => k_is)
      (case c => k_is)
      (case k => k_is))
    (case F_with_values =>
      refine' K58.ft_mk K58.fb_with_values KX G ?a ?l ?c ?k
      (case a => k_is)
      (case l => k_is)
      (case c => k_is)
      (case k => k_is))
    (case F_needed_by =>
      refine' K58.ft_mk K58.fb_needed_by KX G ?a ?l ?c ?k
      (case a => k_is)
      (case l => k_is)
      (case c => k_is)
      (case k => k_is))
    (case F_needed =>
      refine' K58.ft_mk K58.fb_needed KX G ?a ?l ?c ?k
      (case a => k_is)
      (case l => k_is)
      (case c => k_is)
      (case k => k_is))
    (case F_l_draws =>
      refine' K58.ft_mk K58.fb_l_draws KX G ?a ?l ?c ?k
      (case a => k_is)
      (case l => k_is)
      (case c => k_is)
      (case k => k_is))
    (case F_l_take =>
      refine' K58.ft_mk K58.fb_l_take KX G ?a ?l ?c ?k
      (case a => k_is)
      (case l => k_is)
      (case c => k_is)
      (case k => k_is))
    (case F_l_cell =>
      refine' K58.ft_mk K58.fb_l_cell KX G ?a ?l ?c ?k
      (case a => k_is)
      (case l => k_is)
      (case c => k_is)
      (case k => k_is))
    (case F_l_condition =>
      refine' K58.ft_mk K58.fb_l_condition KX G ?a ?l ?c ?k
      (case a => k_is)
      (case l => k_is)
      (case c => k_is)
      (case k => k_is))
    (case F_l_drawn_case =>
      refine' K58.ft_mk K58.fb_l_drawn_case KX G ?a ?l ?c ?k
      (case a => k_is)
      (case l => k_is)
      (case c => k_is)
      (case k => k_is))
    (case F_l_drawn_machine =>
      refine' K58.ft_mk K58.fb_l_drawn_machine KX G ?a ?l ?c ?k
      (case a => k_is)
      (case l => k_is)
      (case c => k_is)
      (case k => k_is))
    (case F_l_shaped_machine =>
      refine' K58.ft_mk K58.fb_l_shaped_machine KX G ?a ?l ?c ?k
      (case a => k_is)
      (case l => k_is)
      (case c => k_is)
      (case k => k_is))
    (case F_l_with_case =>
      refine' K58.ft_mk K58.fb_l_with_case KX G ?a ?l ?c ?k
      (case a => k_is)
      (case l => k_is)
      (case c => k_is)
      (case k => k_is))
    (case F_l_changed =>
      refine' K58.ft_mk K58.fb_l_changed KX G ?a ?l ?c ?k
      (case a => k_is)
      (case l => k_is)
      (case c => k_is)
      (case k => k_is))
    (case F_l_machine =>
      refine' K58.ft_mk K58.fb_l_machine KX G ?a ?l ?c ?k
      (case a => k_is)
      (case l => k_is)
      (case c => k_is)
      (case k => k_is))
    (case F_l_with_tag =>
      refine' K58.ft_mk K58.fb_l_with_tag KX G ?a ?l ?c ?k
      (case a => k_is)
      (case l => k_is)
      (case c => k_is)
      (case k => k_is))
    (case F_l_at =>
      refine' K58.ft_mk K58.fb_l_at KX G ?a ?l ?c ?k
      (case a => k_is)
      (case l => k_is)
      (case c => k_is)
      (case k => k_is))
    (case F_l_holds =>
      refine' K58.ft_mk K58.fb_l_holds KX G ?a ?l ?c ?k
      (case a => k_is)
      (case l => k_is)
      (case c => k_is)
      (case k => k_is))
    (case F_l_case =>
      refine' K58.ft_mk K58.fb_l_case KX G ?a ?l ?c ?k
      (case a => k_is)
      (case l => k_is)
      (case c => k_is)
      (case k => k_is))
    (case F_l_read =>
      refine' K58.ft_mk K58.fb_l_read KX G ?a ?l ?c ?k
      (case a => k_is)
      (case l => k_is)
      (case c => k_is)
      (case k => k_is))
    (case F_l_ranks =>
      refine' K58.ft_mk K58.fb_l_ranks KX G ?a ?l ?c ?k
      (case a => k_is)
      (case l => k_is)
      (case c => k_is)
      (case k => k_is))
    (case F_l_many =>
      refine' K58.ft_mk K58.fb_l_many KX G ?a ?l ?c ?k
      (case a => k_is)
      (case l => k_is)
      (case c => k_is)
      (case k => k_is))
    (case F_l_answers =>
      refine' K58.ft_mk K58.fb_l_answers KX G ?a ?l ?c ?k
      (case a => k_is)
      (case l => k_is)
      (case c => k_is)
      (case k => k_is))
    (case F_l_log =>
      refine' K58.ft_mk K58.fb_l_log KX G ?a ?l ?c ?k
      (case a => k_is)
      (case l => k_is)
      (case c => k_is)
      (case k => k_is))
    (case F_l_spaced =>
      refine' K58.ft_mk K58.fb_l_spaced KX G ?a ?l ?c ?k
      (case a => k_is)
      (case l => k_is)
      (case c => k_is)
      (case k => k_is))
    (case F_l_placed =>
      refine' K58.ft_mk K58.fb_l_placed KX G ?a ?l ?c ?k
      (case a => k_is)
      (case l => k_is)
      (case c => k_is)
      (case k => k_is))
    (case F_l_renamed_condition =>
      refine' K58.ft_mk K58.fb_l_renamed_condition KX G ?a ?l ?c ?k
      (case a => k_is)
      (case l => k_is)
      (case c => k_is)
      (case k => k_is))
    (case F_l_place =>
      refine' K58.ft_mk K58.fb_l_place KX G ?a ?l ?c ?k
      (case a => k_is)
      (case l => k_is)
      (case c => k_is)
      (case k => k_is))
    (case F_l_mapped =>
      refine' K58.ft_mk K58.fb_l_mapped KX G ?a ?l ?c ?k
      (case a => k_is)
      (case l => k_is)
      (case c => k_is)
      (case k => k_is))
    (case F_l_any_type =>
      refine' K58.ft_mk K58.fb_l_any_type KX G ?a ?l ?c ?k
      (case a => k_is)
      (case l => k_is)
      (case c => k_is)
      (case k => k_is))
    (case F_l_near_log =>
      refine' K58.ft_mk K58.fb_l_near_log KX G ?a ?l ?c ?k
      (case a => k_is)
      (case l => k_is)
      (case c => k_is)
      (case k => k_is))
    (case M___init__ =>
      refine' K58.mt_mk K58.fb___init__ ?a ?i ?l ?c ?k
      (case a => k_is)
      (case i => k_is)
      (case l => k_is)
      (case c => k_is)
      (case k => k_is))
    (case M_joint_type =>
      refine' K58.mt_mk K58.fb_joint_type ?a ?i ?l ?c ?k
      (case a => k_is)
      (case i => k_is)
      (case l => k_is)
      (case c => k_is)
      (case k => k_is))
    (case M_contents =>
      refine' K58.mt_mk K58.fb_contents ?a ?i ?l ?c ?k
      (case a => k_is)
      (case i => k_is)
      (case l => k_is)
      (case c => k_is)
      (case k => k_is))
    (case M_after =>
      refine' K58.mt_mk K58.fb_after ?a ?i ?l ?c ?k
      (case a => k_is)
      (case i => k_is)
      (case l => k_is)
      (case c => k_is)
      (case k => k_is))
    (case M_is_parted =>
      refine' K58.mt_mk K58.fb_is_parted ?a ?i ?l ?c ?k
      (case a => k_is)
      (case i => k_is)
      (case l => k_is)
      (case c => k_is)
      (case k => k_is))
