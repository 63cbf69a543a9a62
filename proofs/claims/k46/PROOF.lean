import PyProof.Rows.All
import Wide.All
import OpenK.AllK
import Wide.FinOn
import HandS.ForMost
import HandS.IsInst
import HandS.Conv
import HandS.DictComp
import HandS.SetKeys
import HandS.Strs
import HandS.SetFor
import HandS.TupSets
import HandS.TupAny
import HandS.TupMul
import HandS.Flow
import HandS.Zip
import HandS.Walk
import KE.SortData
import KE.GoesMore
import KE.KDictDisplayH
import PySem.Challenge.RW_eachhandtied_k46_whole_within_limits
import HandS.Style
import HandS.Small
set_option Elab.async false
set_option linter.all false
set_option maxRecDepth 100000
set_option maxHeartbeats 4000000
/-! own rules: set(list of ints), its length -/
namespace Hk
open PySem PySem.Spec PyProof.Rows L2
section
variable {P : Program} {w : World} {A : Around} {E : Value → Shared → Prop} {s : Shared}
theorem call_set_listI {l : Addr} {items : Array Value} (ns : List Int) {Q : Value → Shared → Prop} (hh : A.handled = none) (hl : s.heap.IsList l items) (hit : IntsAre items.toList ns) (hb : ns.length + 1 < scanBound)
    (h : ∀ (h' : Heap) (tk c : Nat), SetR w h' s.heap.objs.size (fun j => decide (j ∈ ns)) c → c ≤ ns.length → (∀ b o, s.heap.get? b = some o → h'.get? b = some o) → Q (.ref s.heap.objs.size) { s with heap := h', toks := tk }) :
    wpAny (model P w) A (call (.type "set") [.ref l]) Q E s := by
  have hisz : items.size = ns.length := by
    have q := IntsAre.length hit
    rw [Array.length_toList] at q
    exact q
  obtain ⟨c, tl, hmro⟩ := F.called_set.mro
  have hmade := F.called_set.made
  have hsub := F.called_set.sub
  refine wpAny_call (codeAny_of_tree ?_)
  show wpAny _ _ (callAny (.type "set") _) _ _ _
  refine wpAny_pure ⟨Code.quiet_builtin _ (by decide +kernel), codeAny_builtin F.entry_type_call ?_⟩
  rw [Around.under_plain (weight_type_call_type "set" [.ref l] []) rfl]
  have h1 := F.called_set.notType
  have h2 := F.called_set.canCreate
  have hct := F.typeCall_set_1 (.ref l)
  repeat (any_goals (first | assumption | wp_step))

  refine codeAny_mono (code_set_led1 (.ref l) (E := E) (Q₁ := fun obj s₁ => obj = .ref s.heap.objs.size ∧ s₁ = { s with heap := s.heap.push { cls := .type "set", dict := none, data := .set #[] 0 (.fresh 0 0 (!w.params.followText "set-order")) } }) ⟨rfl, rfl⟩) fun r s₁ hr => ?_
  cases r with
  | error e => exact hr
  | ok fl =>
    cases fl with
    | ret obj =>
      obtain ⟨rfl, rfl⟩ := hr
      have hS : (s.heap.push { cls := .type "set", dict := none, data := .set #[] 0 (.fresh 0 0 (!w.params.followText "set-order")) }).get? s.heap.objs.size = some { cls := .type "set", dict := none, data := .set #[] 0 (.fresh 0 0 (!w.params.followText "set-order")) } := Heap.get?_push_size _ rfl
      have hT : Shared.TypeIs { s with heap := s.heap.push { cls := .type "set", dict := none, data := .set #[] 0 (.fresh 0 0 (!w.params.followText "set-order")) } } (.ref s.heap.objs.size) "set" := ⟨_, hS, rfl⟩
      have hli := F.called_set.init.lookup
      have hbi := F.called_set.init.bind (.ref s.heap.objs.size)
      repeat (any_goals (first | assumption | wp_step))

      refine codeAny_mono (codeAny_call_builtin (R := wants (fun r s₂ => r = .none ∧ ∃ h' tk c, s₂ = { s with heap := h', toks := tk } ∧ SetR w h' s.heap.objs.size (fun j => decide (j ∈ ns)) c ∧ c ≤ ns.length ∧
          (∀ b o, s.heap.get? b = some o → h'.get? b = some o)) E) F.called_set.init.plain F.entry_set_init (check_set_init_1 hT ?_)) fun r₂ s₂ hr₂ => ?_
      · obtain ⟨ol, hol, hcl, nl, hdl⟩ := hl
        obtain ⟨ocls, odict, odata, oslots⟩ := ol
        simp only at hcl hdl
        subst hcl; subst hdl
        have hol' : (s.heap.push { cls := .type "set", dict := none, data := .set #[] 0 (.fresh 0 0 (!w.params.followText "set-order")) }).get? l = some { cls := .type "list", dict := odict, data := .seq items nl, slots := oslots } := Heap.get?_push_of_some _ hol
        have hsls := F.sub_list_set
        have hslf := F.sub_list_frozenset
        have hne : (Value.type "list" == Value.type "dict") = false := by decide
        have hl1 : (s.heap.push { cls := .type "set", dict := none, data := .set #[] 0 (.fresh 0 0 (!w.params.followText "set-order")) }).IsList l items := ⟨_, hol', rfl, nl, rfl⟩
        unfold Builtin.«set.__init__» noKeywords Builtin.Frozenset.updateFrom
        generalize hPI : pyIter = PI
        wp_walk
        subst hPI

        refine wpAny_pyIter_list hl1 ?_
        refine wpAny_bind (wpAny_runValue ?_)
        have hlS : l < s.heap.objs.size := Heap.lt_size hol
        have hh3 : A.in1.in1.in1.handled = none := by simp [hh]
        have hz1 : (s.heap.push { cls := .type "set", dict := none, data := .set #[] 0 (.fresh 0 0 (!w.params.followText "set-order")) }).objs.size = s.heap.objs.size + 1 := Heap.size_push ..
        have hneI : l ≠ (s.heap.push { cls := .type "set", dict := none, data := .set #[] 0 (.fresh 0 0 (!w.params.followText "set-order")) }).objs.size := by
          rw [Heap.size_push]; exact Nat.ne_of_lt (Nat.lt_succ_of_lt hlS)
        have hSf : s.heap.objs.size ∉ [(s.heap.push { cls := .type "set", dict := none, data := .set #[] 0 (.fresh 0 0 (!w.params.followText "set-order")) }).objs.size, l] := by
          rw [Heap.size_push]; simp only [List.mem_cons, List.mem_singleton, List.not_mem_nil, or_false, not_or]
          exact ⟨Nat.ne_of_lt (Nat.lt_succ_self _), Nat.ne_of_gt hlS⟩
        have hval : ∀ (i : Nat) (v : Value), items[i]? = some v → ∃ k t, ns[i]? = some k ∧ v = .int k t := fun i v hv => by
          have hi : i < ns.length := by rw [← hisz]; exact (Array.getElem?_eq_some_iff.mp hv).1
          obtain ⟨t, e⟩ := PyProof.Rows.IntsAre.int_at hit i v (by rw [Array.getElem?_toList]; exact hv)
          refine ⟨ns[i], t, List.getElem?_eq_getElem hi, ?_⟩
          rw [e, List.getD_eq_getElem?_getD, List.getElem?_eq_getElem hi] <;> rfl
        refine set_update_ints ((Walks.list hh3 _ l hneI items).toS) s.heap.objs.size
          hSf ns hisz hb hval (items.size - 0) 0 _ (by omega) (Nat.zero_le _)
          ⟨⟨_, Heap.get?_push_size _ rfl, rfl, rfl⟩, (hl1.push _)⟩ ?hS0 ?hR
        case hS0 =>
          have hget : ((s.heap.push { cls := .type "set", dict := none, data := .set #[] 0 (.fresh 0 0 (!w.params.followText "set-order")) }).push { cls := .type "list_iterator", data := .fields #[.ref l, .int 0 0] }).get? s.heap.objs.size
              = some { cls := .type "set", dict := none, data := .set #[] 0 (.fresh 0 0 (!w.params.followText "set-order")) } := Heap.get?_push_of_some _ hS
          exact ⟨0, Nat.le_refl 0, setR_new_at hget⟩
        case hR =>
          intro s' c' hm hc' hS'
          obtain ⟨h', g2, d', tk', os'⟩ := s'
          have eg : g2 = s.gens := hm.gens
          have ed : d' = s.drawn := hm.drawn
          have eo : os' = s.os := hm.os
          subst eg; subst ed; subst eo
          show wpAny _ _ _ _ _ _
          refine wpAny_pure ?_
          show wpAny _ _ (ret Value.none) _ _ _
          rw [hisz] at hc'
          refine wpAny_pure ⟨rfl, h', tk', c', rfl, hS', hc', fun b o e => ?_⟩
          have hb0 : b < s.heap.objs.size := Heap.lt_size e
          have hb1 : b ≠ s.heap.objs.size := Nat.ne_of_lt hb0
          have hb2 : b ≠ (s.heap.push { cls := .type "set", dict := none, data := .set #[] 0 (.fresh 0 0 (!w.params.followText "set-order")) }).objs.size := by
            rw [Heap.size_push]; exact Nat.ne_of_lt (Nat.lt_succ_of_lt hb0)
          exact hm.heap b o (by simp only [List.mem_cons, List.mem_singleton, List.not_mem_nil, or_false, not_or]; exact ⟨hb1, hb2⟩) (Heap.get?_push_of_some _ (Heap.get?_push_of_some _ e))
      · cases r₂ with
        | error e => exact hr₂
        | ok fl₂ =>
          cases fl₂ with
          | ret r =>
            obtain ⟨rfl, h', tk, c, rfl, hS', hc', hk'⟩ := hr₂
            repeat (any_goals (first | assumption | wp_step))
            exact h h' tk c hS' hc' hk'
          | _ => exact hr₂
    | _ => exact hr
end
section
variable {X : Cx}
/-- set(xs), xs a list of ints -/
def rSetI (K : PySem.W.Frag) (w : World) : List V → Hp → VK → Prop := fun vs H Q => ∃ (l : Addr) (ns : List Int), vs = [V.ref l] ∧ SqL K H l (ns.map V.int) ∧ ns.length ≤ 1000 ∧
  ∀ a c, H a = none → c ≤ ns.length → Q (.ref a) (upd H a (SetO w a (fun j => decide (j ∈ ns)) c))
theorem cr_setI (hc : X.calm = true) : CallR X (.type "set") (rSetI X.K X.w) := by
  intro pins s σ H vs us Q I r h
  obtain ⟨l, ns, rfl, hq, hl, q⟩ := h
  rw [Vals.ref1 r]
  obtain ⟨its, rv, pl, hz⟩ := I.list hq
  have hi : IntsAre its.toArray.toList ns := rv.ints
  refine call_set_listI ns (I.ok.hd hc) pl.isList hi (by unfold scanBound; omega) fun h' tk c R hcn k => ?_
  have hn : H s.heap.objs.size = none := I.hok.fresh (Nat.le_refl _)
  have J : Inv X pins σ (upd H s.heap.objs.size (SetO X.w s.heap.objs.size (fun j => decide (j ∈ ns)) c)) { s with heap := h', toks := tk } :=
    I.laid (t' := tk) k (Nat.le_refl _) (setO_new R)
  exact ⟨.ref s.heap.objs.size, _, J, rfl, q _ c hn hcn⟩
/-- len(a set of ints) -/
def rLenSet (w : World) : List V → Hp → VK → Prop := fun vs H Q => ∃ (a : Addr) (S : Int → Bool) (n : Nat), vs = [V.ref a] ∧ H a = some (SetO w a S n) ∧
  ∀ ds : List Int, ds.Nodup → (∀ k, S k = true ↔ k ∈ ds) → ds.length = n → Q (.int (n : Nat)) H
theorem cr_lenSet : CallR X (.builtin "len") (rLenSet X.w) := by
  intro pins s σ H vs us Q I r h
  obtain ⟨a, S, n, rfl, ha, q⟩ := h
  rw [Vals.ref1 r]
  obtain ⟨o, es, ep, t, ho, hex, hd, g, nd, hm, hb, hf, hn, _⟩ := setO_get I ha
  have q' := q (es.toList.map keyOf) nd hm (by rw [List.length_map, Array.length_toList]; exact hn)
  refine call_len_set ho hex hd hf ?_ ⟨.int n, H, I.tok _, ⟨_, by rw [hn]⟩, q'⟩
  unfold scanBound at hb
  omega
end
end Hk

set_option Elab.async false
set_option linter.all false
set_option maxRecDepth 100000
set_option maxHeartbeats 4000000
/-! own rules: sorted of data, of a dict with tuple keys; enumerate(tuple); tuple * 1; a display with one tuple key; calls by keywords alone -/
namespace Hk
open PySem PySem.Spec PySem.W PyProof.Rows L2

/-! ### enumerate(tuple) -/
set_option maxHeartbeats 8000000 in
theorem meets_enumerate_newT (l : Addr) (items : Array Value) (n : Nat) (dct : Option Addr) (sl : Array (Option Value)) :
    Meets (Builtin.«enumerate.__new__» ⟨[.type "enumerate", .ref l], []⟩) (fun _ R s => s.heap.get? l = some { cls := .type "tuple", dict := dct, data := .seq items n, slots := sl } ∧
      R (.ok (.ret (.ref (s.heap.push { cls := .type "tuple_iterator", data := .fields #[.ref l, .int 0 0] }).objs.size)))
        { s with heap := (s.heap.push { cls := .type "tuple_iterator", data := .fields #[.ref l, .int 0 0] }).push { cls := .type "enumerate", data := .fields #[.none, .bool false, .ref s.heap.objs.size, rawInt 0, .none, .none] } }) :=
  .of_wp fun prog w A R s h => by
    obtain ⟨hp, g, d, tk, os⟩ := s; obtain ⟨hl, h⟩ := h
    have hsub := sub_enumerate
    have hL : Heap.IsTuple (Shared.heap ⟨hp, g, d, tk, os⟩) l items := ⟨_, hl, rfl, n, rfl⟩
    wp_walk using AutoSeq1.wpAny_loadPart' hl
    refine wpAny_stack_any fun st => wpAny_pure ?_
    split
    · rename_i c _ _ _ _ _
      cases (c == Value.type "enumerate")
      · wp_walk using AutoSeq1.wpAny_loadPart' hl, wpAny_pyIter_tuple hL
        exact ⟨_, rfl, h⟩
      · wp_walk using AutoSeq1.wpAny_loadPart' hl, wpAny_pyIter_tuple hL
        exact ⟨_, rfl, h⟩
    · wp_walk using AutoSeq1.wpAny_loadPart' hl, wpAny_pyIter_tuple hL
      exact ⟨_, rfl, h⟩
section
variable {prog : Program} {w : World} {A : Around} {E : Value → Shared → Prop} {s : Shared}
theorem call_enumerate_tuple {l : Addr} {items : Array Value} {Q : Value → Shared → Prop} (hL : s.heap.IsTuple l items)
    (h : ∀ h', IsEnum h' (s.heap.objs.size + 1) s.heap.objs.size 0 .none → h'.IsTupleIter s.heap.objs.size l 0 → h'.objs.size = s.heap.objs.size + 2 →
      (∀ b o, s.heap.get? b = some o → h'.get? b = some o) → Q (.ref (s.heap.objs.size + 1)) { s with heap := h' }) :
    wpAny (model prog w) A (call (.type "enumerate") [.ref l]) Q E s := by
  obtain ⟨⟨c, dct, dt, sl⟩, hl, hc, n, hd⟩ := hL
  replace hc : c = .type "tuple" := hc
  replace hd : dt = .seq items n := hd
  subst hc hd
  refine callType_new F.called_enumerate (by decide) (F.typeCall_enumerate_1 _) (F.newCall_enumerate_1 _) (fun obj => F.args_object_init_2 obj _) F.entry_enumerate_new
    (meets_enumerate_newT l items n dct sl) ⟨hl, ?_⟩
  have hz : (s.heap.push { cls := .type "tuple_iterator", data := .fields #[.ref l, .int 0 0] }).objs.size = s.heap.objs.size + 1 := Heap.size_push ..
  show _ ∧ _
  rw [hz]
  have he : IsEnum ((s.heap.push { cls := .type "tuple_iterator", data := .fields #[.ref l, .int 0 0] }).push
      { cls := .type "enumerate", data := .fields #[.none, .bool false, .ref s.heap.objs.size, rawInt 0, .none, .none] }) (s.heap.objs.size + 1) s.heap.objs.size 0 .none := by
    have := Heap.get?_push_size (s.heap.push { cls := .type "tuple_iterator", data := .fields #[.ref l, .int 0 0] })
      (o := { cls := .type "enumerate", data := .fields #[.none, .bool false, .ref s.heap.objs.size, rawInt 0, .none, .none] }) rfl
    rw [hz] at this; exact this
  refine ⟨⟨_, he, rfl⟩, h _ he ⟨_, Heap.get?_push_of_some _ (Heap.get?_push_size _ rfl), rfl, rfl⟩ (by rw [Heap.size_push, hz]) fun b o x => Heap.get?_push_of_some _ (Heap.get?_push_of_some _ x)⟩
end
/-- the tuple at a as it stands at each turn, each item in a new pair -/
def IteT (K : PySem.W.Frag) (a : Addr) : It :=
  ⟨fun i H => ∃ (xs : List V) (x : V), SqT K H a xs ∧ xs[i]? = some x, fun i H v H' => ∃ T x, v = .ref T ∧ H T = none ∧ H' = upd H T (.tup [.int (i : Nat), x]) ∧ ∀ xs, SqT K H a xs → xs[i]? = some x, fun i H => ∃ xs : List V, SqT K H a xs ∧ xs.length = i⟩
theorem turn_enumT {P : Program} {w : World} {K : PySem.W.Frag} {elts : List Expr} {kk : Nat} {tpos : Pos} (a e it : Addr) :
    Turn P w K (.Tuple elts kk tpos) (IteT K a) [e, it] e (fun i h => (∃ old, IsEnum h e it ((i : Nat) : Int) old) ∧ h.IsTupleIter it a i ∧ e ≠ it) where
  mem := by simp
  obj := fun i h st b hb => by
    obtain ⟨⟨old, he⟩, ⟨o, ho, hc, hd⟩, _⟩ := st
    have e' : b = e ∨ b = it := by simpa using hb
    rcases e' with z | z
    · rw [z]; exact ⟨_, he, fun v q => nomatch q⟩
    · rw [z]; exact ⟨o, ho, fun v q => by rw [hd] at q; cases q⟩
  keep := fun i h h' st k => let ⟨⟨old, he⟩, hi, hne⟩ := st; ⟨⟨old, k e (by simp) _ he⟩, hi.at fun o q => k it (by simp) o q, hne⟩
  item := by
    intro X hP hw hK hc i pins s σ H E I hf st hg
    subst hP hw hK
    obtain ⟨⟨old, he⟩, hit, hne⟩ := st
    obtain ⟨xs, x, hq, hx⟩ := hg
    obtain ⟨its, rv, p, hz⟩ := I.tuple hq
    obtain ⟨u, hu, ru⟩ := rv.get hx
    have hel : e < s.heap.objs.size := Heap.lt_size he
    have hil : it < s.heap.objs.size := by obtain ⟨_, q, _⟩ := hit; exact Heap.lt_size q
    obtain ⟨oa, hoa, hca, na, hda⟩ := id p
    have hai : a ≠ it := fun z => by
      obtain ⟨o2, q2, c2, _⟩ := hit
      rw [← z, hoa] at q2
      have q3 := Option.some.inj q2
      rw [← q3, hca] at c2
      exact absurd c2 (by decide)
    have hae : e ≠ a := fun z => by
      have q2 : s.heap.get? e = _ := he
      rw [z, hoa] at q2
      have q3 := Option.some.inj q2
      rw [q3] at hca
      exact absurd (show Value.type "enumerate" = Value.type "tuple" from hca) (by decide)
    have hlt : i < its.toArray.size := by
      rw [List.size_toArray]
      exact (List.getElem?_eq_some_iff.mp hu).1
    refine wpAny_pyNext_enum_itemD (D := Draws.tuple (A := X.A.in1) (I.ok.hd hc) it a hai its.toArray) he ⟨hit, p⟩ hlt hne (by simp; exact ⟨hne, hae⟩) fun x' h' tk hx' ho hst hT hsz hk => ?_
    have ex : x' = u := by
      have q1 : its.toArray[i]? = some x' := hx'
      have q2 : its.toArray[i]? = some u := by simpa using hu
      rw [q1] at q2
      exact Option.some.inj q2
    subst ex
    refine ⟨_, rfl, wpAny_letOwnedTupleGo_enum (s := { s with heap := h', toks := tk + 1 }) ho fun h'' he' sb => ?_⟩
    have hT2 : h''.get? s.heap.objs.size = some { cls := .type "tuple", data := .seq #[.int i tk, x'] } := (sb.2 _ (Nat.ne_of_gt hel)).trans hT
    have new : ObjOk X.prog X.w (upd H s.heap.objs.size (.tup [.int (i : Nat), x])) h'' s.heap.objs.size (.tup [.int (i : Nat), x]) :=
      ⟨by show 2 ≤ sizeLine; decide, [.int i tk, x'], .cons ⟨_, rfl⟩ (.cons ru .nil), ⟨_, hT2, rfl, _, rfl⟩⟩
    have I1 : Inv X pins σ (upd H s.heap.objs.size (.tup [.int (i : Nat), x])) { s with heap := h'', toks := tk + 1 } :=
      I.turnedNew (ch := [e, it]) (fun b ob hb q => (sb.2 b (fun z => hb (by simp [z]))).trans (hk b ob (fun z => hb (by simp [z])) (fun z => hb (by simp [z])) q)) hf (Nat.le_refl _) new
    refine ⟨.ref s.heap.objs.size, _, I1, rfl, ⟨_, x, rfl, I.hok.fresh (Nat.le_refl _), rfl, fun ys hy => by rw [I.tuple_inj hy hq]; exact hx⟩, ⟨⟨x', ?_⟩, hst.1.at fun o q => (sb.2 it (Ne.symm hne)).trans q, hne⟩, fun b hb => ?_⟩
    · have e1 : ((i + 1 : Nat) : Int) = (i : Int) + 1 := by omega
      rw [e1]; exact he'
    · have hb' : b < s.heap.objs.size := by
        have e' : b = e ∨ b = it := by simpa using hb
        rcases e' with z | z
        · rw [z]; exact hel
        · rw [z]; exact hil
      rw [upd_ne (Nat.ne_of_lt hb')]
      exact (hf b hb).1
  done := by
    intro X hP hw hK hc i pins s σ H E I hf st hg
    subst hP hw hK
    obtain ⟨⟨old, he⟩, hit, hne⟩ := st
    obtain ⟨xs, hq, hx⟩ := hg
    obtain ⟨its, rv, p, hz⟩ := I.tuple hq
    obtain ⟨f0, f1, f2, f3, f4, f5⟩ := hf it (by simp)
    have hl := rv.length
    obtain ⟨oa, hoa, hca, na, hda⟩ := id p
    have hai : a ≠ it := fun z => by
      obtain ⟨o2, q2, c2, _⟩ := hit
      rw [← z, hoa] at q2
      have q3 := Option.some.inj q2
      rw [← q3, hca] at c2
      exact absurd c2 (by decide)
    have ei : its.toArray.size = i := by rw [List.size_toArray, ← hl, hx]
    refine wpAny_pyNext_enum_endD (D := Draws.tuple (A := X.A.in1) (I.ok.hd hc) it a hai its.toArray) he ⟨by rw [ei]; exact hit, p⟩ fun h' eb => ⟨rfl, I.turned (t' := s.toks) (fun b o hb q => eb b o hb q) f0 f1 f3 f4 f5⟩
  self := fun A i s Q E st h => let ⟨⟨_, he⟩, _⟩ := st; wpAny_pyIter_enum he h
def iEnumT (K : PySem.W.Frag) (ta : TA) : TI := fun σ H R => ta σ H fun vs H1 => ∃ a xs, vs = [.ref a] ∧ SqT K H1 a xs ∧ R (IteT K a) H1
theorem pi_enumT {X : Cx} {e : Expr} {ta : TA} {p pos tpos : Pos} {elts : List Expr} {kk : Nat} (hg : Gl X "enumerate") (hm : X.mg "enumerate" = none) (ha : PA X [e] ta) (hs : starEach [e] X.env = [(false, eval e X.env)] := by rfl) :
    PI X (.Tuple elts kk tpos) (.Call (.Name "enumerate" p) [e] [] pos) (iEnumT X.K ta) := by
  refine ⟨fun pins s σ H R I h => ?_⟩
  refine Call_ (ld_blt I hg hm boot_enumerate (PyProof.Rows.callWith_type1 (thn (ha.run pos pins s σ H _ I h) fun us s1 ⟨vs, H1, I1, r1, q1⟩ => ?_) hs rfl))
  obtain ⟨a, xs, ex, hq, q⟩ := q1
  subst ex
  cases r1 with
  | cons r rr =>
    cases rr
    cases r
    obtain ⟨its, rv, p', hz⟩ := I1.tuple hq
    refine call_enumerate_tuple (show s1.heap.IsTuple a its.toArray from p') fun h' he hit hsz hk => wpAny_pyIter_enum he ?_
    have I2 : Inv X pins σ H1 { s1 with heap := h' } := I1.kept (t' := s1.toks) hk
    refine ⟨s1.heap.objs.size + 1, [s1.heap.objs.size + 1, s1.heap.objs.size], _, _, H1, rfl, I2, turn_enumT a (s1.heap.objs.size + 1) s1.heap.objs.size, ⟨⟨.none, he⟩, hit, Nat.succ_ne_self _⟩, fun b hb => ?_, q⟩
    have e' : b = s1.heap.objs.size + 1 ∨ b = s1.heap.objs.size := by simpa using hb
    have hle : s1.heap.objs.size ≤ b := by
      rcases e' with z | z
      · rw [z]; exact Nat.le_add_right _ _
      · rw [z]; exact Nat.le_refl _
    exact I1.fpOk hle (I1.hok.fresh hle)
end Hk

set_option Elab.async false
set_option linter.all false
set_option maxRecDepth 100000
set_option maxHeartbeats 4000000
namespace L2
open PySem PySem.Spec PySem.W PyProof.Rows
/-! ### data in a heap -/
section
variable {K : PySem.W.Frag} {H H' : Hp}
theorem same_seqT {a : Addr} {xs : List V} (e : Same H H') (h : SqT K H a xs) : SqT K H' a xs := by
  rcases h with (h | ⟨o, h⟩) | h
  · exact .inl (.inl (e _ _ h))
  · exact .inl (.inr ⟨o, e _ _ h⟩)
  · exact .inr h
mutual
theorem dp_same (e : Same H H') : ∀ (d : PyData) (v : V), Dp K H v d → Dp K H' v d
  | .none, _, h => by cases h; exact .non
  | .bool _, _, h => by cases h; exact .bl _
  | .int _, _, h => by cases h; exact .int _
  | .str _, _, h => by cases h; exact .str _
  | .list ds, _, h => by
    cases h with
    | lst h1 h2 => exact .lst (e.seq h1) (dpAll_same e ds _ h2)
  | .tuple ds, _, h => by
    cases h with
    | tup h1 h2 => exact .tup (same_seqT e h1) (dpAll_same e ds _ h2)
  | .dict _, _, h => by cases h
theorem dpAll_same (e : Same H H') : ∀ (ds : List PyData) (vs : List V), DpAll K H vs ds → DpAll K H' vs ds
  | [], _, h => by cases h; exact .nil
  | d :: ds, _, h => by
    cases h with
    | cons h1 h2 => exact .cons (dp_same e d _ h1) (dpAll_same e ds _ h2)
end
theorem Dp.same {d : PyData} {v : V} (h : Dp K H v d) (e : Same H H') : Dp K H' v d := dp_same e d v h
theorem DpAll.same {ds : List PyData} {vs : List V} (h : DpAll K H vs ds) (e : Same H H') : DpAll K H' vs ds := dpAll_same e ds vs h
theorem DpAll.len : ∀ {ds : List PyData} {vs : List V}, DpAll K H vs ds → vs.length = ds.length
  | [], _, h => by cases h; rfl
  | d :: ds, _, h => by
    cases h with
    | cons h1 h2 => rw [List.length_cons, List.length_cons, DpAll.len h2]
theorem DpAll.at : ∀ {ds : List PyData} {vs : List V} {i : Nat} {d : PyData}, DpAll K H vs ds → ds[i]? = some d → ∃ v, vs[i]? = some v ∧ Dp K H v d
  | [], _, i, _, h, e => by simp at e
  | d :: ds, _, 0, x, h, e => by
    cases h with
    | cons h1 h2 =>
      have q : d = x := by simpa using e
      subst q
      exact ⟨_, rfl, h1⟩
  | d :: ds, _, i + 1, x, h, e => by
    cases h with
    | cons h1 h2 =>
      obtain ⟨v, q1, q2⟩ := DpAll.at (i := i) h2 (by simpa using e)
      exact ⟨v, by simpa using q1, q2⟩
theorem DpAll.back : ∀ {ds : List PyData} {vs : List V} {i : Nat} {v : V}, DpAll K H vs ds → vs[i]? = some v → ∃ d, ds[i]? = some d ∧ Dp K H v d
  | [], _, i, _, h, e => by cases h; simp at e
  | d :: ds, _, 0, x, h, e => by
    cases h with
    | cons h1 h2 =>
      simp only [List.getElem?_cons_zero] at e
      cases e
      exact ⟨_, rfl, h1⟩
  | d :: ds, _, i + 1, x, h, e => by
    cases h with
    | cons h1 h2 =>
      obtain ⟨d', q1, q2⟩ := DpAll.back (i := i) h2 (by simpa using e)
      exact ⟨d', by simpa using q1, q2⟩
theorem DpAll.app : ∀ {ds es : List PyData} {vs us : List V}, DpAll K H vs ds → DpAll K H us es → DpAll K H (vs ++ us) (ds ++ es)
  | [], _, _, _, h, g => by cases h; exact g
  | d :: ds, _, _, _, h, g => by
    cases h with
    | cons h1 h2 => exact .cons h1 (DpAll.app h2 g)
theorem DpAll.one {d : PyData} {v : V} (h : Dp K H v d) : DpAll K H [v] [d] := .cons h .nil
theorem Dp.int_inv {v : V} {i : Int} (h : Dp K H v (.int i)) : v = .int i := by cases h; rfl
theorem DpAll.ints_inv : ∀ {ns : List Int} {vs : List V}, DpAll K H vs (ns.map PyData.int) → vs = ns.map V.int
  | [], _, h => by cases h; rfl
  | n :: ns, _, h => by
    rw [List.map_cons] at h
    cases h with
    | cons h1 h2 => rw [Dp.int_inv h1, DpAll.ints_inv h2, List.map_cons]
theorem DpAll.ints : ∀ (ns : List Int), DpAll K H (ns.map V.int) (ns.map PyData.int)
  | [] => .nil
  | n :: ns => .cons (.int n) (DpAll.ints ns)
theorem Dp.tup_inv {v : V} {ds : List PyData} (h : Dp K H v (.tuple ds)) : ∃ a xs, v = .ref a ∧ SqT K H a xs ∧ DpAll K H xs ds := by
  cases h with
  | tup h1 h2 => exact ⟨_, _, rfl, h1, h2⟩
theorem Dp.lst_inv {v : V} {ds : List PyData} (h : Dp K H v (.list ds)) : ∃ a xs, v = .ref a ∧ SqL K H a xs ∧ DpAll K H xs ds := by
  cases h with
  | lst h1 h2 => exact ⟨_, _, rfl, h1, h2⟩
theorem Dp.tupI_inv {v : V} {ns : List Int} (h : Dp K H v (.tuple (ns.map PyData.int))) : ∃ a, v = .ref a ∧ SqT K H a (ns.map V.int) := by
  obtain ⟨a, xs, e, h1, h2⟩ := h.tup_inv
  rw [DpAll.ints_inv h2] at h1
  exact ⟨a, e, h1⟩
theorem Dp.lstI_inv {v : V} {ns : List Int} (h : Dp K H v (.list (ns.map PyData.int))) : ∃ a, v = .ref a ∧ SqL K H a (ns.map V.int) := by
  obtain ⟨a, xs, e, h1, h2⟩ := h.lst_inv
  rw [DpAll.ints_inv h2] at h1
  exact ⟨a, e, h1⟩
theorem Dp.tupI {a : Addr} {ns : List Int} (h : SqT K H a (ns.map V.int)) : Dp K H (.ref a) (.tuple (ns.map PyData.int)) := .tup h (DpAll.ints ns)
theorem Dp.lstI {a : Addr} {ns : List Int} (h : SqL K H a (ns.map V.int)) : Dp K H (.ref a) (.list (ns.map PyData.int)) := .lst h (DpAll.ints ns)
theorem DpAll.of_zip : ∀ {bs : List (V × PyData)}, (∀ b ∈ bs, Dp K H b.1 b.2) → DpAll K H (bs.map Prod.fst) (bs.map Prod.snd)
  | [], _ => .nil
  | b :: bs, h => .cons (h b List.mem_cons_self) (DpAll.of_zip fun c hc => h c (List.mem_cons_of_mem _ hc))
theorem DpAll.zip_mem : ∀ {ds : List PyData} {vs : List V}, DpAll K H vs ds → ∀ b ∈ vs.zip ds, Dp K H b.1 b.2
  | [], _, h, b, hb => by cases h; simp at hb
  | d :: ds, _, h, b, hb => by
    cases h with
    | cons h1 h2 =>
      rw [List.zip_cons_cons] at hb
      rcases List.mem_cons.mp hb with e | hb
      · rw [e]; exact h1
      · exact DpAll.zip_mem h2 b hb
theorem same_new {p : Addr} (h : H p = none) (o : HO) : Same H (upd H p o) := fun b u q => by rw [upd_ne (ne_of_none q h)]; exact q
theorem sq_new {p : Addr} {xs : List V} : SqL K (upd H p (.lst xs)) p xs := .inl (.inl upd_same)
theorem st_new {p : Addr} {xs : List V} : SqT K (upd H p (.tup xs)) p xs := .inl (.inl upd_same)
end
end L2
namespace Hk
open PySem PySem.Spec PySem.W PyProof.Rows L2
/-! ### sorted(xs), xs a list of alike data -/
section
variable {X : Cx}
def rSortedD (K : PySem.W.Frag) : List V → Hp → VK → Prop := fun vs H Q => ∃ (a : Addr) (xs : List V) (ds : List PyData), vs = [V.ref a] ∧ SqL K H a xs ∧ DpAll K H xs ds ∧ AllAlike ds ∧ Sortable ds ∧ (∀ d ∈ ds, d.depth ≤ 8) ∧
  ∀ (bs : List (V × PyData)) (p : Addr), bs.Perm (xs.zip ds) → bs.Pairwise (fun a b => dataLe false Prod.snd a b = true) → H p = none → Q (.ref p) (upd H p (.lst (bs.map Prod.fst)))
theorem each_zip {K : PySem.W.Frag} {H : Hp} : ∀ {xs : List V} {ds : List PyData} {us : List Value}, DpAll K H xs ds → Vals xs us → EachIs (fun (v : Value) (b : V × PyData) => RelV b.1 v ∧ Dp K H b.1 b.2) us (xs.zip ds)
  | _, [], _, h, r => by
    cases h
    cases r
    exact .nil
  | _, d :: ds, _, h, r => by
    cases h with
    | cons h1 h2 =>
      cases r with
      | cons r1 r2 => exact .cons ⟨r1, h1⟩ (each_zip h2 r2)
theorem vals_each {K : PySem.W.Frag} {H : Hp} : ∀ {bs : List (V × PyData)} {us : List Value}, EachIs (fun (v : Value) (b : V × PyData) => RelV b.1 v ∧ Dp K H b.1 b.2) us bs → Vals (bs.map Prod.fst) us
  | _, _, .nil => .nil
  | _, _, .cons h t => .cons h.1 (vals_each t)
theorem zip_snd_sub {α β : Type} : ∀ (xs : List α) (ds : List β), ∀ d ∈ (xs.zip ds).map Prod.snd, d ∈ ds
  | [], _, d, h => by simp at h
  | _ :: _, [], d, h => by simp at h
  | x :: xs, y :: ds, d, h => by
    rw [List.zip_cons_cons, List.map_cons] at h
    rcases List.mem_cons.mp h with e | h
    · rw [e]; exact List.mem_cons_self
    · exact List.mem_cons_of_mem _ (zip_snd_sub xs ds d h)
theorem cr_sortedD (hu : X.A.units + 64 < cLine) : CallR X (.builtin "sorted") (rSortedD X.K) := by
  intro pins s σ H vs us Q I r h
  obtain ⟨a, xs, ds, rfl, hq, hD, hal, hk, hd, q⟩ := h
  rw [Vals.ref1 r]
  obtain ⟨its, rv, pl, hz⟩ := I.list hq
  have e := each_zip hD rv
  have sub := zip_snd_sub xs ds
  have hlen : (xs.zip ds).length ≤ sizeLine := by
    rw [List.length_zip]
    exact Nat.le_trans (Nat.min_le_left _ _) hz
  refine sorted_data (β := V × PyData) (vs := its) (bs := xs.zip ds) (enc := Prod.snd) (R := fun v b => RelV b.1 v ∧ Dp X.K H b.1 b.2) pl.isList e
    (e.mono fun v b h => by
      obtain ⟨as, z⟩ := Dp.reads I b.2 b.1 v h.2 h.1
      exact ⟨as, z⟩) (fun d hd d' hd' => hal d (sub d hd) d' (sub d' hd')) ?_ hlen ?_ ?_
  · rcases hk with hk | hk
    · exact .inl fun d hd => hk d (sub d hd)
    · exact .inr fun d hd => hk d (sub d hd)
  · intro b hb
    have q1 := hd b.2 (sub _ (List.mem_map.mpr ⟨b, hb, rfl⟩))
    show X.A.units + 2 + (Prod.snd b).depth < cLine
    omega
  · intro out hol eo
    have hp := List.mergeSort_perm (xs.zip ds) (dataLe false Prod.snd)
    have hs := sort_pairwise (sortLe_total (listOrd itemOrd) false fun b : V × PyData => keyToks b.2) (xs.zip ds)
    have rv2 := vals_each eo
    obtain ⟨c, hc⟩ := sortedAll_at s.heap its (List.toArray out)
    have hn : H (s.heap.objs.size + 1) = none := I.hok.fresh (Nat.le_succ _)
    have hl2 : (((xs.zip ds).mergeSort (dataLe false Prod.snd)).map Prod.fst).length ≤ sizeLine := by
      rw [List.length_map, hp.length_eq]
      exact hlen
    refine ⟨.ref (s.heap.objs.size + 1), _, I.laid (t' := s.toks) (o := .lst (((xs.zip ds).mergeSort (dataLe false Prod.snd)).map Prod.fst)) (fun b u e => sortedAll_old e) (Nat.le_succ _) ⟨hl2, out, c, rv2, hc⟩, rfl, q _ _ hp hs hn⟩
end
end Hk

set_option Elab.async false
set_option linter.all false
set_option maxRecDepth 100000
set_option maxHeartbeats 4000000
namespace Hk
open PySem PySem.Spec PySem.W PyProof.Rows L2
open AutoSeq1 (wpAny_loadPart')
/-! ### t * 1 -/
theorem tuple_mul1 (l : Addr) (items : Array Value) (n : Nat) (dd : Option Addr) (sl : Array (Option Value)) (u : Tok) :
    Meets (Builtin.«tuple.__mul__» ⟨[.ref l, .int 1 u], []⟩) (fun _ R s => s.heap.get? l = some { cls := .type "tuple", dict := dd, data := .seq items n, slots := sl } ∧
      R (.ok (.ret (Value.ref l))) s) :=
  .of_wp fun prog w A R s h => by
    obtain ⟨hp, g, d, tk, os⟩ := s
    obtain ⟨hl, h⟩ := h
    have f1 := AutoSeq1.idx_int
    wp_walk using wpAny_loadPart' hl
    exact ⟨_, rfl, h⟩
def rRepT1 (K : PySem.W.Frag) : R2 := fun x y H Q => ∃ l xs, x = .ref l ∧ y = .int 1 ∧ SqT K H l xs ∧ Q (.ref l) H
section
variable {X : Cx}
theorem op_repT1 : OpR X (binaryOp .Mult) (rRepT1 X.K) := by
  intro pins s σ H x y v u Q I rx ry h
  obtain ⟨l, xs, rfl, rfl, hT, q⟩ := h
  cases rx
  obtain ⟨t, rfl⟩ := ry
  obtain ⟨its, r, ⟨⟨cls, dd, data, sl⟩, ho, hc, n, hd⟩, hs⟩ := I.tuple hT
  simp only at hc hd
  subst hc hd
  refine wpAny_binaryOp_repeat_ref (T := "tuple") (U := "int") (by decide) ⟨_, ho, rfl⟩ (fun s' => typeIs_int s' 1 t) noFill_tuple_mul F.fills_int_mul F.slot_int_rmul repeat_tuple F.slot_int_index.lookup
    (call_meets F.slot_int_rmul (typeIs_int s 1 t) F.entry_int_rmul (F.args_int_rmul_2 _ _) (int_rmul_tuple 1 t l its.toArray n dd sl)
      ⟨ho, rfl, ⟨_, ho, rfl⟩, call_meets F.slot_tuple_mul ⟨_, ho, rfl⟩ F.entry_tuple_mul (F.args_tuple_mul_2 _ _) (tuple_mul1 l its.toArray n dd sl t) ⟨ho, ?_⟩⟩)
  exact ⟨.ref l, H, I, rfl, q⟩
/-- t * k, k from 1 -/
theorem op_repT' : OpR X (binaryOp .Mult) (fun x y H Q => rRepT1 X.K x y H Q ∨ rRepT X.K x y H Q) := OpR.or op_repT1 op_repT
/-! ### {(a, b): v} -/
def tDispT (tk tv : TE) : TE := fun σ H Q => ∀ p, H p = none → tk σ (upd H p (.dT [])) fun x H1 => tv σ H1 fun y H2 => H2 p = some (.dT []) ∧ ∃ b k, x = .ref b ∧ H2 b = some (.tup (k.map kV)) ∧ Q (.ref p) (upd H2 p (.dT [(k, y)]))
theorem pe_dispT {pos : Pos} {k v : Expr} {tk tv : TE} (hu : X.A.units + 1 < cLine) (hk : PE X k tk) (hv : PE X v tv) : PE X (.Dict [some k] [v] pos) (tDispT tk tv) := by
  refine ⟨fun pins s σ H Q I q => ?_⟩
  have hn := I.hok.fresh (Nat.le_refl s.heap.objs.size)
  have I1 := I.laid (a := s.heap.objs.size) (o := .dT []) (h' := s.heap.push { cls := .type "dict", data := .dict #[] }) (t' := s.toks) (fun _ _ q => Heap.get?_push_of_some _ q) (Nat.le_refl _) (dt_empty s.heap I.big)
  have hshape := zip_pairTrees [some k] [v] X.env pos rfl rfl
  have hne : pairTrees [some k] [v] X.env pos ≠ [] := fun e => nomatch (show [_] = [] from e)
  rw [arm_eval_Dict, hshape, dictDisplay_pairs (pairTrees [some k] [v] X.env pos) hne (by show (1 : Nat) < _; decide)]
  refine wpAny_bind (wpAny_standAt (wpAny_bind (wpAny_subDictH (knd := tupleKind (mixKind X.prog X.w)) (Q := fun d s' => wpAny (model X.prog X.w) X.A (pure (Value.ref d)) (EP X pins σ Q) X.xe s') (show X.A.units < cLine from Nat.lt_of_succ_lt hu) (by show (1 : Nat) ≤ 15; decide) ?_)))
  refine pairTrees_cons_walk (thn (hk.run pins _ σ _ _ I1 (q _ hn)) fun u s2 ⟨x, H1, I2, rx, q2⟩ => thn (hv.run pins s2 σ H1 _ I2 q2) fun w2 s3 ⟨y, H2, I3, ry, e0, b, kk, ex, eb, q3⟩ => pairTrees_nil_walk ?_)
  subst ex
  cases (show u = Value.ref b from rx)
  obtain ⟨z, hd, xs, rel, dd⟩ := dt_of I3.hok e0
  cases rel
  refine ⟨[(kk, b, w2)], ⟨rfl, rfl, key_of I3.hok eb, True.intro⟩, dd, fun h' tk dd' hs => wpAny_pure ?_⟩
  have dd2 : h'.DictOfH (tupleKind (mixKind X.prog X.w)) s.heap.objs.size (storedH [] kk b w2) := dd'
  obtain ⟨qo, es, ep, hq, h2, h3, h4, _, h5⟩ := dd2
  have hkt : KT (upd H2 s.heap.objs.size (.dT [(kk, y)])) [(kk, y)] (storedH [] kk b w2) := by
    have r0 : KT H2 ([] : List (List Key × V)) [] := .nil
    have r1 := (r0.put kk eb ry)
    have e1 : putK ([] : List (List Key × V)) kk y = [(kk, y)] := rfl
    rw [e1] at r1
    refine r1.keeps fun c ys ec => ?_
    rw [upd_ne (ne_of ec e0 (fun z => nomatch z))]
    exact ec
  refine ⟨.ref s.heap.objs.size, _, d_write I3 (ob := .dT [(kk, y)]) (by rw [e0]; exact True.intro) hs ⟨qo, hq⟩ ⟨by show 1 ≤ sizeLine; decide, hd, _, hkt, qo, es, ep, hq, h2, h3, h4, h5⟩, rfl, q3⟩
end
/-! ### f(k = v, ..) -/
section
variable {X : Cx} {CX : CXT} {k : Nat} {f : Addr} {fd : FuncData} {ps ks : List Str} {sp : Sp} {E : XK} {x : Str} {p pos : Pos} {kws : List Keyword} {tk : TA} {g : List Value → List Value → List Value} {gV : List V → List V → List V}
theorem pe_callK0 (F : FnOk X.prog X.w X.K X.mg X.base CX k f fd ps sp) (hr : Room k X.A) (hg : Gl X x) (hm : X.mg x = some (.ref f)) (hk : PySem.W.keepIn X.K (.ref f) = true) (hb : KBinds X.K fd ps ks g gV) (hx : Passes CX X E)
    (hkw : PK X kws tk) (hall : (backToKw pos (keywordEach kws X.env)).all (·.1.isSome) = true := by rfl) (hks : (backToKw pos (keywordEach kws X.env)).filterMap (·.1) = ks := by rfl)
    (hdb : (x == ("__debug__" : Str)) = false := by decide)
    (hpl : ((backTo pos (starEach [] X.env)).any (·.1) || (backToKw pos (keywordEach kws X.env)).any (·.1.isNone)) = false := by rfl) :
    PE X (.Call (.Name x p) [] kws pos) (tCallK sp gV E tNil tk) := by
  refine ⟨fun pins s σ H Q I h => ?_⟩
  refine wpAny_Call_Name_kw (ld_glob I hg hm ?_ hdb)
  refine PySem.W.callWith_KW0 (h₀ := X.base) I.ok.mod.kin hk hall (thn (hkw.run pos pins s σ H _ I h) fun ws s2 ⟨zs, H2, I2, rz, q2⟩ => ⟨I2.kIn, ?_⟩) hpl
  rw [hks]
  exact run_fnk (us := []) (vs := []) F hr hb hx I2 .nil rz q2
end
end Hk

set_option Elab.async false
set_option linter.all false
set_option maxRecDepth 100000
set_option maxHeartbeats 4000000
namespace Hk
open PySem PySem.Spec PySem.W PyProof.Rows L2
/-! ### sorted(d), d a dict whose keys are tuples of ints -/
abbrev tupD (k : List Int) : PyData := .tuple (k.map PyData.int)
abbrev keyI (k : List Int) : List Key := k.map Sum.inl
theorem kV_keyI (k : List Int) : (keyI k).map kV = k.map V.int := by
  rw [List.map_map]
  rfl
theorem alike_tupI : ∀ a b : List Int, alikeAll (a.map PyData.int) (b.map PyData.int) = true := alike_ints
theorem depth_tupI (k : List Int) : (tupD k).depth ≤ 8 := by
  have e : (tupD k).depth = PyData.depthAll (k.map PyData.int) + 1 := by
    simp [PyData.depth]
  rw [e, depth_ints]
  decide
section
variable {X : Cx}
def rSortedDT : List V → Hp → VK → Prop := fun vs H Q => ∃ (a : Addr) (kvs : List (List Key × V)) (ks : List (List Int)), vs = [V.ref a] ∧ H a = some (.dT kvs) ∧ kvs.map (·.1) = ks.map keyI ∧ (∀ k ∈ ks, k ≠ []) ∧
  ∀ (bs : List (V × PyData)) (p : Addr), (bs.map Prod.snd).Perm (ks.map tupD) → (∀ b ∈ bs, ∃ t k, b = (V.ref t, tupD k) ∧ H t = some (.tup (k.map V.int))) → bs.Pairwise (fun a b => dataLe false Prod.snd a b = true) → H p = none → Q (.ref p) (upd H p (.lst (bs.map Prod.fst)))
theorem paired_keys {H : Hp} : ∀ {kvs : List (List Key × V)} {xs : List (List Key × Addr × Value)} {ks : List (List Int)}, KT H kvs xs → kvs.map (·.1) = ks.map keyI →
    Paired (fun (x : List Key × Addr × Value) (k : List Int) => H x.2.1 = some (.tup (k.map V.int))) xs ks
  | [], _, ks, r, e => by
    cases r
    cases ks with
    | nil => exact .nil
    | cons k ks => simp at e
  | p :: kvs, _, ks, r, e => by
    cases r with
    | cons h t =>
      cases ks with
      | nil => simp at e
      | cons k ks =>
        rw [List.map_cons, List.map_cons] at e
        injection e with e1 e2
        refine .cons ?_ (paired_keys t e2)
        have h2 := h.2.1
        rw [e1, kV_keyI] at h2
        exact h2
theorem each_keys {H : Hp} {K : PySem.W.Frag} : ∀ {xs : List (List Key × Addr × Value)} {ks : List (List Int)}, Paired (fun (x : List Key × Addr × Value) (k : List Int) => H x.2.1 = some (.tup (k.map V.int))) xs ks →
    EachIs (fun (v : Value) (b : V × PyData) => RelV b.1 v ∧ ∃ t k, b = (V.ref t, tupD k) ∧ H t = some (.tup (k.map V.int))) (xs.map fun x => Value.ref x.2.1) ((xs.zip ks).map fun z => (V.ref z.1.2.1, tupD z.2))
  | _, _, .nil => .nil
  | _, _, .cons h t => .cons ⟨rfl, _, _, rfl, h⟩ (each_keys (K := K) t)
theorem zip_snds {α β γ : Type} {F : α → β → Prop} (f : β → γ) : ∀ {xs : List α} {ks : List β}, Paired F xs ks → (xs.zip ks).map (fun z => f z.2) = ks.map f
  | _, _, .nil => rfl
  | _, _, .cons _ t => by
    rw [List.zip_cons_cons, List.map_cons, List.map_cons, zip_snds f t]
theorem vals_eachT {H : Hp} : ∀ {bs : List (V × PyData)} {us : List Value}, EachIs (fun (v : Value) (b : V × PyData) => RelV b.1 v ∧ ∃ t k, b = (V.ref t, tupD k) ∧ H t = some (.tup (k.map V.int))) us bs → Vals (bs.map Prod.fst) us
  | _, _, .nil => .nil
  | _, _, .cons h t => .cons h.1 (vals_eachT t)
theorem cr_sortedDT (hcalm : X.calm = true) (hu : X.A.units + 64 < cLine) : CallR X (.builtin "sorted") rSortedDT := by
  intro pins s σ H xs us Q I r q
  obtain ⟨a, kvs, ks, rfl, hd, hks, hne, q⟩ := q
  obtain ⟨u, rfl, rx⟩ := r.one
  cases rx
  obtain ⟨z, hs, xs, pr, o, es, ep, ho, hx, hdt, he, hn⟩ := (show ObjOk X.prog X.w H s.heap a (.dT kvs) from I.hok a _ hd)
  have l1 : es.size = xs.length := size_of_entries he
  have l2 : kvs.length = xs.length := Paired.length pr
  have pk := paired_keys pr hks
  have l3 : xs.length = ks.length := Paired.length pk
  refine Calls.call_function_entry PyProof.Rows.kind_sorted PyProof.Rows.plain_sorted PyProof.Rows.entry_sorted (PyProof.Rows.args_sorted1 _) ?_
  unfold Builtin.«sorted»
  refine wpAny_bind (m := checkCount "sorted" 1 1 _) (wpAny_pure ?_)
  refine wpAny_bind (PySem.W.kdu_collect (A := X.A.in1) (kdl_raw hs hx hdt) (I.ok.hd hcalm) ho (by omega) fun h' tk acc hk it => ?_)
  have ea : acc.toList = xs.map fun x => Value.ref x.2.1 := by
    have hl : acc.toList.length = xs.length := by rw [Array.length_toList, it.1]; exact l1
    apply List.ext_getElem?
    intro j
    rw [List.getElem?_map]
    cases hj : acc.toList[j]? with
    | none =>
      have h1 := List.getElem?_eq_none_iff.mp hj
      rw [List.getElem?_eq_none (by omega)]
      all_goals rfl
    | some v =>
      obtain ⟨en, hen, hv⟩ := it.2 j v (by rw [← Array.getElem?_toList]; exact hj)
      have qe := entry_at he j
      rw [hen] at qe
      cases hb : xs[j]? with
      | none =>
        rw [hb] at qe
        exact nomatch (show some en = none from qe)
      | some b =>
        rw [hb] at qe
        have e2 : en = entryOfKey (tupleKind (mixKind X.prog X.w)) b := Option.some.inj qe
        rw [hv, e2]
        all_goals rfl
  have I1 : Inv X pins σ H { s with heap := h', toks := tk } := I.kept hk
  have hal : acc.toList.length = ks.length := by rw [ea, List.length_map, l3]
  have hkl : ks.length ≤ sizeLine := by omega
  refine wpAny_bind (wpAny_newList ?_ (by rw [hal]; exact hkl))
  have hoL : (h'.push (seqObj "list" acc.toList.toArray 0)).get? h'.objs.size = some (seqObj "list" acc.toList.toArray 0) := Heap.get?_push_size _ rfl
  have hn' : H h'.objs.size = none := I1.hok.fresh (Nat.le_refl _)
  have I2 : Inv X pins σ H { s with heap := h'.push (seqObj "list" acc.toList.toArray 0), toks := tk } := I1.kept (t' := tk) fun b u e => Heap.get?_push_of_some _ e
  show wpAny _ _ _ _ _ { s with heap := h'.push (seqObj "list" acc.toList.toArray 0), toks := tk }
  have e := each_keys (K := X.K) pk
  rw [← ea] at e
  have hbl : ((xs.zip ks).map fun z => ((V.ref z.1.2.1, tupD z.2) : V × PyData)).length = ks.length := by
    rw [List.length_map, List.length_zip, l3, Nat.min_self]
  have hsn : ((xs.zip ks).map fun z => ((V.ref z.1.2.1, tupD z.2) : V × PyData)).map Prod.snd = ks.map tupD := by
    rw [List.map_map]
    exact zip_snds tupD pk
  refine wpAny_bind (wpAny_holding (list_sort_data (β := V × PyData) (A := X.A.in1) (s := { s with heap := h'.push (seqObj "list" acc.toList.toArray 0), toks := tk }) (vs := acc.toList) (bs := (xs.zip ks).map fun z => (V.ref z.1.2.1, tupD z.2)) (enc := Prod.snd)
    (R := fun (v : Value) (b : V × PyData) => RelV b.1 v ∧ ∃ t k, b = (V.ref t, tupD k) ∧ H t = some (.tup (k.map V.int))) hoL e ?_ ?_ ?_ ?_ ?_ ?_))
  · refine e.mono fun v b hb => ?_
    obtain ⟨rv, t, k, eb, ht⟩ := hb
    have hdp : Dp X.K H b.1 b.2 := by
      rw [eb]
      exact Dp.tupI (.inl (.inl ht))
    obtain ⟨as, hr⟩ := Dp.reads I1 b.2 b.1 v hdp rv
    have hr2 : Reads (h'.push (seqObj "list" acc.toList.toArray 0)) v b.2 as := PyProof.Rows.Reads.keeps (fun _ _ e => Heap.get?_push_of_some _ e) hr
    refine ⟨as, hr2, ?_⟩
    intro hm
    have hz : ∀ {h : Heap} {k : List Int} {v : Value} {as : List Addr}, Reads h v (tupD k) as → as = [] := by
      intro h k v as hr
      cases hr with
      | tuple h1 h2 h3 h4 =>
        rename_i vs2 _ _ _
        have : ∀ (k : List Int) (vs : List Value) (as : List Addr), ReadsAll h vs (k.map PyData.int) as → as = [] := by
          intro k
          induction k with
          | nil => intro vs as hh; cases hh; rfl
          | cons i k ih =>
            intro vs as hh
            cases hh with
            | cons q1 q2 =>
              cases q1
              rw [ih _ _ q2]
              rfl
        exact this _ _ _ h4
    rw [eb] at hr
    rw [hz hr] at hm
    cases hm
  · rw [hsn]
    intro d hd d' hd'
    obtain ⟨k, _, rfl⟩ := List.mem_map.mp hd
    obtain ⟨k', _, rfl⟩ := List.mem_map.mp hd'
    show alikeAll (k.map PyData.int) (k'.map PyData.int) = true
    exact alike_ints k k'
  · rw [hsn]
    refine .inl fun d hd => ?_
    obtain ⟨k, hk2, rfl⟩ := List.mem_map.mp hd
    cases k with
    | nil => exact absurd rfl (hne _ hk2)
    | cons i k => exact ⟨_, _, rfl⟩
  · rw [hbl]
    exact hkl
  · intro b hb
    obtain ⟨z0, _, rfl⟩ := List.mem_map.mp hb
    have q1 := depth_tupI z0.2
    have q2 : X.A.in1.units = X.A.units + 1 := rfl
    show X.A.in1.units + 1 + (tupD z0.2).depth < cLine
    omega
  · intro out hol eo
    have hp := List.mergeSort_perm ((xs.zip ks).map fun z => ((V.ref z.1.2.1, tupD z.2) : V × PyData)) (dataLe false Prod.snd)
    have hs2 := sort_pairwise (sortLe_total (listOrd itemOrd) false fun b : V × PyData => keyToks b.2) ((xs.zip ks).map fun z => ((V.ref z.1.2.1, tupD z.2) : V × PyData))
    have rv2 := vals_eachT eo
    obtain ⟨e', he'⟩ := PyProof.Rows.sortedHeap_at (vs := acc.toList) (out := List.toArray out) hoL
    have hl2 : ((((xs.zip ks).map fun z => ((V.ref z.1.2.1, tupD z.2) : V × PyData)).mergeSort (dataLe false Prod.snd)).map Prod.fst).length ≤ sizeLine := by
      rw [List.length_map, hp.length_eq, hbl]
      exact hkl
    refine wpAny_pure ⟨_, rfl, .ref h'.objs.size, _, I1.laid (t' := tk) (o := .lst ((((xs.zip ks).map fun (z : (List Key × Addr × Value) × List Int) => ((V.ref z.1.2.1, tupD z.2) : V × PyData)).mergeSort (dataLe false Prod.snd)).map Prod.fst)) (fun b u e => ?_) (Nat.le_refl _) ⟨hl2, out, e', rv2, he'⟩, rfl, q (((xs.zip ks).map fun (z : (List Key × Addr × Value) × List Int) => ((V.ref z.1.2.1, tupD z.2) : V × PyData)).mergeSort (dataLe false Prod.snd)) _ ?_ ?_ hs2 hn'⟩
    · have hb : b < h'.objs.size := Heap.lt_size e
      rw [PyProof.Rows.sortedHeap_old (Nat.ne_of_lt hb) (by rw [Heap.size_push]; exact Nat.lt_succ_of_lt hb)]
      exact Heap.get?_push_of_some _ e
    · have hp2 := hp.map Prod.snd
      rw [hsn] at hp2
      exact hp2
    · intro b hb
      have hb2 := hp.mem_iff.mp hb
      obtain ⟨z0, hz0, rfl⟩ := List.mem_map.mp hb2
      obtain ⟨b', hb', _, t, k, e1, ht⟩ : ∃ v, v ∈ acc.toList ∧ RelV (V.ref z0.1.2.1) v ∧ ∃ t k, ((V.ref z0.1.2.1, tupD z0.2) : V × PyData) = (V.ref t, tupD k) ∧ H t = some (.tup (k.map V.int)) := by
        have hall : ∀ {vs : List Value} {cs : List (V × PyData)}, EachIs (fun (v : Value) (b : V × PyData) => RelV b.1 v ∧ ∃ t k, b = (V.ref t, tupD k) ∧ H t = some (.tup (k.map V.int))) vs cs → ∀ c ∈ cs, ∃ v, v ∈ vs ∧ RelV c.1 v ∧ ∃ t k, c = (V.ref t, tupD k) ∧ H t = some (.tup (k.map V.int)) := by
          intro vs cs hh
          induction hh with
          | nil => intro c hc; cases hc
          | cons h1 h2 ih =>
            intro c hc
            rcases List.mem_cons.mp hc with e | hc
            · rw [e]; exact ⟨_, List.mem_cons_self, h1⟩
            · obtain ⟨v, q1, q2⟩ := ih c hc
              exact ⟨v, List.mem_cons_of_mem _ q1, q2⟩
        exact hall e _ hb2
      exact ⟨t, k, e1, ht⟩
end
end Hk

set_option linter.all false
/-! the mirror: what the defs compute, as plain functions -/
namespace Hm
/-- one of each -/
def dd {α : Type} [DecidableEq α] : List α → List α
  | [] => []
  | x :: r => if x ∈ r then dd r else x :: dd r
structure Web where
  m : Nat
  n : Nat
  ties : List (Nat × Nat)
def sel (side : Nat) (t : Nat × Nat) : Nat := if side = 0 then t.1 else t.2
def Web.size (w : Web) (side : Nat) : Nat := if side = 0 then w.m else w.n
def marked (marks : List Nat) (many : Nat) (t : Nat × Nat) : List Nat :=
  if marks.getD t.1 0 = marks.getD (many + t.2) 0 then marks else marks.map fun own => if own = marks.getD (many + t.2) 0 then marks.getD t.1 0 else own
def grown (marks : List Nat) (many : Nat) (ties : List (Nat × Nat)) : List Nat := ties.foldl (fun mk t => marked mk many t) marks
def hangs (m n : Nat) (ties : List (Nat × Nat)) : Bool := (dd (grown (List.range (m + n)) m ties)).length == 1
def pairLt (a b : Nat × Nat) : Bool := a.1 < b.1 || (a.1 == b.1 && a.2 < b.2)
def ascB : List (Nat × Nat) → Bool
  | [] => true
  | [_] => true
  | a :: b :: r => pairLt a b && ascB (b :: r)
def okWeb (w : Web) : Bool := (1 ≤ w.m : Bool) && (1 ≤ w.n : Bool) && w.ties.all (fun t => t.1 < w.m && t.2 < w.n) && ascB w.ties && (w.m + w.n ≤ w.ties.length + 1 : Bool) && hangs w.m w.n w.ties
def tiesAt (w : Web) (side : Nat) (lot : List Nat) : List (Nat × Nat) := w.ties.filter fun t => decide (sel side t ∈ lot)
def nbs (w : Web) (side : Nat) (lot : List Nat) : List Nat := dd ((tiesAt w side lot).map fun t => sel (1 - side) t)
def pcs (w : Web) (side : Nat) (lot : List Nat) : List Nat := dd (lot.map fun own => (grown (List.range (w.m + w.n)) w.m (tiesAt w side lot)).getD (own + side * w.m) 0)
def rank (w : Web) (side : Nat) (lot : List Nat) : Int := ((nbs w side lot).length : Int) - ((pcs w side lot).length : Int)
def lotOf (k bits : Nat) : List Nat := (List.range k).filter fun p => bits / 2 ^ p % 2 == 1
def ranksBy (w : Web) (side : Nat) : List Int := 0 :: (List.range' 1 (2 ^ w.size side - 1)).map fun bits => rank w side (lotOf (w.size side) bits)
def least : List Int → Int
  | [] => 0
  | x :: r => r.foldl (fun a b => if b < a then b else a) x
def greatest : List Int → Int
  | [] => 0
  | x :: r => r.foldl (fun a b => if a < b then b else a) x
def hiL (ranks told : List Int) (place : Nat) : List Int := told.mapIdx fun bits number => ranks.getD (bits ||| 2 ^ place) 0 - number
def loL (ranks told : List Int) (place : Nat) : List Int := told.mapIdx fun bits number => ranks.getD (ranks.length - 1) 0 - ranks.getD ((ranks.length - 1) ^^^ (bits ||| 2 ^ place)) 0 - number
def upto (a b : Int) : List Int := (List.range (b - a).toNat).map fun (i : Nat) => a + Int.ofNat i
def nums (ranks told : List Int) (place : Nat) : List Int := upto (greatest (loL ranks told place)) (least (hiL ranks told place) + 1)
def longer (ranks : List Int) (place : Nat) (f : List Int × List Int) : List (List Int × List Int) :=
  (nums ranks f.2 place).map fun number => (f.1 ++ [number], f.2 ++ f.2.map fun own => own + number)
def found (ranks : List Int) : Nat → List (List Int × List Int)
  | 0 => [([], [0])]
  | j + 1 => (found ranks j).flatMap (longer ranks j)
def rows (w : Web) (side : Nat) : List (List Int) := (found (ranksBy w side) (w.size side)).map Prod.fst
def small (x : Int) : Bool := (-1000 ≤ x : Bool) && (x ≤ 1000 : Bool)
def okRows (w : Web) (side : Nat) : Bool :=
  (ranksBy w side).all small && (List.range (w.size side + 1)).all fun j => ((found (ranksBy w side) j).length ≤ 2000 : Bool) && (found (ranksBy w side) j).all fun f => f.1.length == j && f.2.length == 2 ^ j && f.2.all small && f.1.all small
/-! ### the law's own -/
def treeStep (m need left : Nat) (bond : Nat × Nat) (f : List (Nat × Nat) × List Nat) : List (List (Nat × Nat) × List Nat) :=
  (if need ≤ f.1.length + left then [f] else []) ++
  (if f.2.getD bond.1 0 ≠ f.2.getD (m + bond.2) 0 ∧ f.1.length < need then [(f.1 ++ [bond], f.2.map fun own => if own = f.2.getD (m + bond.2) 0 then f.2.getD bond.1 0 else own)] else [])
/-- the ties left to do; what is found so far -/
def treesFrom (m need : Nat) : List (Nat × Nat) → List (List (Nat × Nat) × List Nat) → List (List (Nat × Nat) × List Nat)
  | [], fs => fs
  | bond :: r, fs => treesFrom m need r (fs.flatMap (treeStep m need r.length bond))
def trees (w : Web) : List (List (Nat × Nat)) :=
  ((treesFrom w.m (w.m + w.n - 1) w.ties [([], List.range (w.m + w.n))]).filter fun f => f.1.length == w.m + w.n - 1).map Prod.fst
def line (w : Web) (half : Nat) (boughs : List (Nat × Nat)) : List Int :=
  boughs.foldl (fun l b => l.set (sel half b) (l.getD (sel half b) 0 + 1)) (List.replicate (w.size half) (-1))
def lines (w : Web) (half : Nat) : List (List Int) := (trees w).map (line w half)
/-! ### in order -/
def lexLt : List Int → List Int → Bool
  | [], [] => false
  | [], _ :: _ => true
  | _ :: _, [] => false
  | x :: xs, y :: ys => if x = y then lexLt xs ys else decide (x < y)
def ascL : List (List Int) → Bool
  | [] => true
  | [_] => true
  | a :: b :: r => lexLt a b && ascL (b :: r)
/-- the rows are just the lines, ascending -/
def sameRows (w : Web) (half : Nat) : Bool := ascL (rows w half) && (rows w half).all (fun r => decide (r ∈ lines w half)) && (lines w half).all fun l => decide (l ∈ rows w half)
/-! ### all webs -/
def subs {α : Type} : List α → List (List α)
  | [] => [[]]
  | x :: r => subs r ++ (subs r).map (x :: ·)
def pairs (m n : Nat) : List (Nat × Nat) := (List.range m).flatMap fun a => (List.range n).map fun b => (a, b)
/-- a colour that no tie changes -/
def colour (w : Web) (x : Nat) : Bool := (grown (List.range (w.m + w.n)) w.m w.ties).getD x 0 == (grown (List.range (w.m + w.n)) w.m w.ties).getD 0 0
def apart (w : Web) : Bool := w.ties.all (fun t => colour w t.1 == colour w (w.m + t.2)) && (List.range (w.m + w.n)).any fun x => !colour w x
def good (w : Web) : Bool := apart w || (okWeb w && okRows w 0 && okRows w 1 && sameRows w 0 && sameRows w 1)
def goodAll (m n : Nat) : Bool := (subs (pairs m n)).all fun ts => good ⟨m, n, ts⟩
end Hm

set_option Elab.async false
set_option linter.all false
set_option maxRecDepth 100000
set_option maxHeartbeats 4000000
namespace Hk
open PySem PySem.Spec PyProof.Rows L2
/-! ### the text -/
def topS (i : Nat) : Stmt := PySem.Challenge.pw_eachhandtied_k46_whole_within_limits.main.body.getD i (.Pass ⟨0, 0, 0, 0⟩)
/-- a def of the top stands where its name says -/
structure Src (K : PySem.W.Frag) (mg : Str → Option Value) (x : Str) (st : Stmt) (ps : List Str) : Prop where
  ex : ∃ (f : Addr) (fd : FuncData), Fun K x x st f fd ∧ Binds K fd ps [] ∧ mg x = some (.ref f)
/-- the def named x keeps the promise sp -/
structure Cal (P : Program) (w : World) (K : PySem.W.Frag) (mg : Str → Option Value) (base : Heap) (k : Nat) (x : Str) (ps : List Str) (sp : Sp) : Prop where
  ex : ∃ (f : Addr) (fd : FuncData), FnOk P w K mg base CX0 k f fd ps sp ∧ Binds K fd ps [] ∧ PySem.W.keepIn K (.ref f) = true ∧ mg x = some (.ref f)
/-- the built-ins' names are free -/
structure Blt (mg : Str → Option Value) : Prop where
  isinstance : mg "isinstance" = none
  int : mg "int" = none
  bool : mg "bool" = none
  str : mg "str" = none
  tuple : mg "tuple" = none
  list : mg "list" = none
  len : mg "len" = none
  all : mg "all" = none
  range : mg "range" = none
  sorted : mg "sorted" = none
  set : mg "set" = none
  zip : mg "zip" = none
  enumerate : mg "enumerate" = none
  min : mg "min" = none
  max : mg "max" = none
  abs : mg "abs" = none
section
variable {P : Program} {w : World} {K : PySem.W.Frag} {mg : Str → Option Value} {base : Heap}
theorem Src.cal {x : Str} {st : Stmt} {N ps : List Str} {k : Nat} {sp : Sp} (S : Src K mg x st ps) (sc : FnScope N ps (defScope st)) (len : ∀ vs H Q E, sp vs H Q E → vs.length = ps.length)
    (hbody : ∀ (f : Addr) (cdv : Value) (A : Around) (outer : List Env) (s : Shared) (H : Hp) (vs : List V) (Q : VK) (E : XK), Room k (A.deeper (envOfC x (defScope st) s.heap.objs.size f cdv)) → sp vs H Q E →
      ∃ t, PSs (cxOf CX0 P w K mg base N x (defScope st) f cdv A outer s H E).nox (defBody st) t ∧ t { nx := fun _ H' => Q .non H', rt := Q } (start N vs) H) : Cal P w K mg base (k + 1) x ps sp := by
  obtain ⟨f, fd, F, b, m⟩ := S.ex
  exact ⟨f, fd, F.ok sc len (hbody f), b, F.kp, m⟩
theorem Cal.mono {x : Str} {ps : List Str} {j k : Nat} {sp : Sp} (C : Cal P w K mg base j x ps sp) (h : j ≤ k) : Cal P w K mg base k x ps sp := by
  obtain ⟨f, fd, F, r⟩ := C.ex
  exact ⟨f, fd, F.mono h, r⟩
theorem Cal.imp {x : Str} {ps : List Str} {k : Nat} {sp sp' : Sp} (C : Cal P w K mg base k x ps sp) (h : ∀ vs H Q E, sp' vs H Q E → sp vs H Q E) : Cal P w K mg base k x ps sp' := by
  obtain ⟨f, fd, F, r⟩ := C.ex
  exact ⟨f, fd, F.imp h, r⟩
end
section
variable {X : Cx} {x : Str} {p pos : Pos} {e : Expr} {es : List Expr} {t : TA} {sp : Sp} {k : Nat} {ps : List Str}
/-- f(e, ..) -/
theorem pe_cal (C : Cal X.prog X.w X.K X.mg X.base k x ps sp) (hr : Room k X.A) (hg : Gl X x) (ha : PA X (e :: es) t) (hdb : (x == ("__debug__" : Str)) = false := by decide)
    (he : starEach (e :: es) X.env = (false, eval e X.env) :: starEach es X.env := by rfl) (hpl : (backTo pos (starEach es X.env)).any (·.1) = false := by rfl) :
    PE X (.Call (.Name x p) (e :: es) [] pos) (tCall sp [] E0 t) := by
  obtain ⟨f, fd, F, b, kp, m⟩ := C.ex
  exact pe_call F hr hg m kp b .nil pass0 ha hdb he hpl
theorem pe_cal0 (C : Cal X.prog X.w X.K X.mg X.base k x ps sp) (hr : Room k X.A) (hg : Gl X x) (hdb : (x == ("__debug__" : Str)) = false := by decide) :
    PE X (.Call (.Name x p) [] [] pos) (tCall sp [] E0 tNil) := by
  obtain ⟨f, fd, F, b, kp, m⟩ := C.ex
  exact pe_call0 F hr hg m kp b .nil pass0 hdb
end
/-! ### built-ins by name, in short -/
section
variable {X : Cx} (B : Blt X.mg)
include B
variable {e e2 : Expr} {t : TA} {p pos : Pos} {ta tb : TE}
theorem pe_len (ha : PE X e ta) (hg : Gl X "len" := by rfl) (hs : starEach [e] X.env = (false, eval e X.env) :: starEach [] X.env := by rfl) : PE X (.Call (.Name "len" p) [e] [] pos) (tCB (fun xs H Q => ∃ p ys, xs = [V.ref p] ∧ (SqL X.K H p ys ∨ SqT X.K H p ys) ∧ Q (.int ys.length) H) (tCons ta tNil)) :=
  pe_callB call_len_seq hg B.len PySem.boot_len (pa_cons ha pa_nil hs) (he := hs)
theorem pe_isi {T : Str} {T' : String} (ha : PE X e ta) (hm : X.mg T = none) (hv : bootBuiltins T = some (.type T')) (hn : T ≠ "__name__" := by decide) (hd : (T == ("__debug__" : Str)) = false := by decide) (hg : Gl X "isinstance" := by rfl) (hg2 : Gl X T := by rfl) {p2 : Pos}
    (hs : starEach [e, .Name T p2] X.env = (false, eval e X.env) :: starEach [.Name T p2] X.env := by rfl) :
    PE X (.Call (.Name "isinstance" p) [e, .Name T p2] [] pos) (tCB (rIsi X.K) (tCons ta (tCons (tC (.ty T')) tNil))) :=
  pe_callB call_isi hg B.isinstance boot_isinstance (pa_cons ha (pa_cons (pe_bltn hg2 hm hv rfl hn hd) pa_nil) hs) (he := hs)
end
/-! ### webs as data -/
open Hm
def encP (t : Nat × Nat) : PyData := .tuple [.int t.1, .int t.2]
def encTs (ts : List (Nat × Nat)) : PyData := .tuple (ts.map encP)
def encW (w : Web) : PyData := .tuple [.int w.m, .int w.n, encTs w.ties]
def iN (l : List Nat) : List Int := l.map fun (n : Nat) => (n : Int)
abbrev lstI (l : List Int) : PyData := .list (l.map PyData.int)
section
variable {K : PySem.W.Frag} {H : Hp}
theorem dp_pair {v : V} {t : Nat × Nat} (h : Dp K H v (encP t)) : ∃ a, v = .ref a ∧ SqT K H a [.int (t.1 : Int), .int (t.2 : Int)] := by
  obtain ⟨a, xs, e, h1, h2⟩ := h.tup_inv
  have e2 : xs = [V.int (t.1 : Int), V.int (t.2 : Int)] := DpAll.ints_inv (ns := [(t.1 : Int), (t.2 : Int)]) h2
  exact ⟨a, e, by rw [← e2]; exact h1⟩
theorem dp_pair_mk {a : Addr} {t : Nat × Nat} (h : SqT K H a [.int (t.1 : Int), .int (t.2 : Int)]) : Dp K H (.ref a) (encP t) :=
  .tup h (DpAll.ints [(t.1 : Int), (t.2 : Int)])
theorem dp_web {v : V} {w : Web} (h : Dp K H v (encW w)) : ∃ a t, v = .ref a ∧ SqT K H a [.int (w.m : Int), .int (w.n : Int), .ref t] ∧ Dp K H (.ref t) (encTs w.ties) := by
  obtain ⟨a, xs, e, h1, h2⟩ := h.tup_inv
  cases h2 with
  | cons q1 h2 =>
    cases h2 with
    | cons q2 h2 =>
      cases h2 with
      | cons q3 h2 =>
        cases h2
        cases q1
        cases q2
        obtain ⟨t, ys, e3, _⟩ := id q3.tup_inv
        subst e3
        exact ⟨a, t, e, h1, q3⟩
theorem dp_ties {v : V} {ts : List (Nat × Nat)} (h : Dp K H v (encTs ts)) : ∃ a xs, v = .ref a ∧ SqT K H a xs ∧ DpAll K H xs (ts.map encP) := h.tup_inv
end
end Hk

set_option Elab.async false
set_option linter.all false
set_option maxRecDepth 100000
set_option maxHeartbeats 4000000
namespace Hk
open PySem PySem.Spec PyProof.Rows L2
/-! ### what supports a result: G within H; from (G, H) to (G', H') by new objects alone -/
structure Ext (G H G' H' : Hp) : Prop where
  gg : Same G G'
  gh : Same G' H'
  hh : Same H H'
  fr : ∀ b, H b ≠ none → G' b = G b
section
variable {G H G1 H1 G2 H2 : Hp} {p : Addr} {o : HO}
theorem Ext.rfl' (h : Same G H) : Ext G H G H := ⟨Same.refl _, h, Same.refl _, fun _ _ => rfl⟩
theorem Ext.trans (a : Ext G H G1 H1) (b : Ext G1 H1 G2 H2) : Ext G H G2 H2 := by
  refine ⟨a.gg.trans b.gg, b.gh, a.hh.trans b.hh, fun c hc => ?_⟩
  have h1 : H1 c ≠ none := by
    cases q : H c with
    | none => exact absurd q hc
    | some u => rw [a.hh _ _ q]; exact fun z => nomatch z
  rw [b.fr c h1, a.fr c hc]
theorem none_g (h : Same G H) (hp : H p = none) : G p = none := h.free hp
theorem Ext.new (a : Ext G H G1 H1) (hp : H1 p = none) : Ext G H (upd G1 p o) (upd H1 p o) := by
  have hg : G1 p = none := a.gh.free hp
  refine ⟨a.gg.trans (same_new hg o), fun b u q => ?_, a.hh.trans (same_new hp o), fun b hb => ?_⟩
  · by_cases e : b = p
    · subst e
      rw [upd_same] at q ⊢
      exact q
    · rw [upd_ne e] at q ⊢
      exact a.gh _ _ q
  · have e : b ≠ p := fun e => by
      subst e
      exact hb (a.hh.free hp)
    rw [upd_ne e]
    exact a.fr b hb
theorem Ext.loc (a : Ext G H G1 H1) (hp : H1 p = none) : Ext G H G1 (upd H1 p o) := ⟨a.gg, a.gh.trans (same_new hp o), a.hh.trans (same_new hp o), a.fr⟩
theorem same_mut (h : Same G H) (hp : G p = none) : Same G (upd H p o) := fun b u q => by
  rw [upd_ne (ne_of_none q hp)]
  exact h b u q
theorem Ext.mut (a : Ext G H G1 H1) (h1 : G1 p = none) (h0 : H p = none) : Ext G H G1 (upd H1 p o) := ⟨a.gg, same_mut a.gh h1, same_mut a.hh h0, a.fr⟩
theorem Ext.same (a : Ext G H G1 H1) (h : Same H1 H2) : Ext G H G1 H2 := ⟨a.gg, a.gh.trans h, a.hh.trans h, a.fr⟩
theorem Ext.of_same (g : Same G H) (h : Same H H1) : Ext G H G H1 := (Ext.rfl' g).same h
/-- what was being made is ready -/
theorem Ext.give (a : Ext G H G1 H1) (h0 : H p = none) (h1 : G1 p = none) (h : H1 p = some o) : Ext G H (upd G1 p o) H1 := by
  refine ⟨a.gg.trans (same_new h1 o), fun b u q => ?_, a.hh, fun b hb => ?_⟩
  · by_cases e : b = p
    · subst e
      rw [upd_same] at q
      rw [h]; exact q
    · rw [upd_ne e] at q
      exact a.gh _ _ q
  · have e : b ≠ p := fun e => by
      subst e
      exact hb h0
    rw [upd_ne e]
    exact a.fr b hb
theorem Ext.none (a : Ext G H G1 H1) (hh : H p ≠ none) (hg : G p = none) : G1 p = none := by
  rw [a.fr p hh]
  exact hg
end
/-! ### rules with the written part told (for a comprehension's block) -/
section
variable {X : Cx}
theorem ixT (K : PySem.W.Frag) (h : X.K = K := by rfl) : IxR X (rIxT K) := h ▸ ix_tup
theorem ixL (K : PySem.W.Frag) (h : X.K = K := by rfl) : IxR X (rIxL K) := h ▸ ix_list
theorem ltT (K : PySem.W.Frag) (hu : X.A.units < cLine) (h : X.K = K := by rfl) : OpR X (compareOp .Lt) (rLtT K) := h ▸ op_ltT hu
def rLen (K : PySem.W.Frag) : List V → Hp → VK → Prop := fun xs H Q => ∃ p ys, xs = [V.ref p] ∧ (SqL K H p ys ∨ SqT K H p ys) ∧ Q (.int ys.length) H
theorem lenS (K : PySem.W.Frag) (h : X.K = K := by rfl) : CallR X (.builtin "len") (rLen K) := h ▸ call_len_seq
theorem allL (K : PySem.W.Frag) (hc : X.calm = true) (h : X.K = K := by rfl) : CallR X (.builtin "all") (rAll K) := h ▸ cr_all hc
theorem isiK (K : PySem.W.Frag) (h : X.K = K := by rfl) : CallR X (.builtin "isinstance") (rIsi K) := h ▸ call_isi
end
theorem some_ne {α : Type} {x : Option α} {a : α} (h : x = some a) : x ≠ none := by
  rw [h]
  exact fun z => nomatch z
theorem same_some {H H' : Hp} {p : Addr} (h : Same H H') (hp : H p ≠ none) : H' p ≠ none := by
  cases q : H p with
  | none => exact absurd q hp
  | some o => exact some_ne (h _ _ q)
theorem range_fm {β : Type} (ys : Nat → Option β) (i : Nat) : (List.range (i + 1)).filterMap ys = (List.range i).filterMap ys ++ (ys i).toList := by
  rw [List.range_succ, List.filterMap_append]
  cases h : ys i <;> simp [h]
theorem range_fm_len {β : Type} (ys : Nat → Option β) (i : Nat) : ((List.range i).filterMap ys).length ≤ i := by
  have h := List.length_filterMap_le ys (List.range i)
  rw [List.length_range] at h
  exact h
section
variable {J : It} {n : Nat} {Gd : Hp → Prop} {Y : Nat → Hp → V → Hp → Prop}
/-- a comprehension whose items are known ahead: ys i, none where the test leaves it out -/
theorem lc_filt (w : Walk J n Gd Y) {g : TG} {tt : TT} {te : TE} {vs : List Nat} {σ : L2.St} {H : Hp} {D : Addr} {Qd : Hp → Prop} (ys : Nat → Option V) (hn : n ≤ 10000) (hD : H D = none) (hG : ∀ H', Same H H' → Gd H')
    (hs : ∀ i x H1 H1', i < n → Same H H1 → H1 D ≠ none → Y i H1 x H1' → ∀ (R1 : V → Hp → Prop) (R0 : Hp → Prop), (∀ y H3, ys i = some y → Same H1 H3 → R1 y H3) → (ys i = none → ∀ H3, Same H1 H3 → R0 H3) →
      g x (wipe σ vs) H1' fun σ2 H2 => wipe σ2 vs = wipe σ vs ∧ tt σ2 H2 fun b H3 => if b = true then te σ2 H3 R1 else R0 H3)
    (hd : ∀ H1, Same H H1 → H1 D = some (.lst ((List.range n).filterMap ys)) → Qd H1) :
    ∃ W : Nat → Nat → Hp → Prop, (∃ m, W 0 m (upd H D (.lst []))) ∧ ∀ i m H, W i m H →
      (J.stop i H ∧ Qd H) ∨ (J.go i H ∧ ∃ Nx : Hp → Prop, (∀ H', Nx H' → ∃ m', m' < m ∧ W (i + 1) m' H') ∧ ∀ x H', J.yld i H x H' → g x (wipe σ vs) H' fun σ2 H2 => wipe σ2 vs = wipe σ vs ∧ tt σ2 H2 fun b H3 =>
        if b = true then te σ2 H3 fun y H4 => ∃ acc, H4 D = some (.lst acc) ∧ acc.length < sizeLine ∧ Nx (upd H4 D (.lst (acc ++ [y]))) else Nx H3) := by
  refine lc_it w (fun i H1 => Same H H1 ∧ H1 D = some (.lst ((List.range i).filterMap ys))) ⟨same_new hD _, upd_same⟩ (fun i H1 _ q => hG H1 q.1) (fun i x H1 H1' hi q hY => ?_) (fun H1 q => hd H1 q.1 q.2)
  have hz : ((List.range i).filterMap ys).length < sizeLine := Nat.lt_of_le_of_lt (range_fm_len ys i) (Nat.lt_of_lt_of_le hi (Nat.le_trans hn (by decide)))
  refine hs i x H1 H1' hi q.1 (some_ne q.2) hY _ _ (fun y H3 hy s3 => ⟨_, s3 _ _ q.2, hz, ?_, ?_⟩) (fun hy H3 s3 => ⟨q.1.trans s3, ?_⟩)
  · exact same_mut (q.1.trans s3) hD
  · rw [upd_same, range_fm, hy]
    rfl
  · rw [s3 _ _ q.2, range_fm, hy, Option.toList_none, List.append_nil]
/-- a comprehension whose items are new data -/
theorem lc_data {K : PySem.W.Frag} (w : Walk J n Gd Y) {g : TG} {te : TE} {vs : List Nat} {σ : L2.St} {G H : Hp} {D : Addr} {Qd : Hp → Prop} (es : List PyData) (hl : n = es.length) (hn : n ≤ 10000) (hgh : Same G H) (hD : H D = none) (hG : ∀ H', Same H H' → Gd H')
    (hs : ∀ i x G1 H1 H1' e, i < n → es[i]? = some e → Ext G H G1 H1 → H1 D ≠ none → G1 D = none → Y i H1 x H1' → ∀ (R : V → Hp → Prop), (∀ y G2 H2, Ext G1 H1 G2 H2 → Dp K G2 y e → R y H2) →
      g x (wipe σ vs) H1' fun σ2 H2 => wipe σ2 vs = wipe σ vs ∧ te σ2 H2 R)
    (hd : ∀ G1 H1 us, Ext G H G1 H1 → G1 D = none → DpAll K G1 us es → H1 D = some (.lst us) → Qd H1) :
    ∃ W : Nat → Nat → Hp → Prop, (∃ m, W 0 m (upd H D (.lst []))) ∧ ∀ i m H, W i m H →
      (J.stop i H ∧ Qd H) ∨ (J.go i H ∧ ∃ Nx : Hp → Prop, (∀ H', Nx H' → ∃ m', m' < m ∧ W (i + 1) m' H') ∧ ∀ x H', J.yld i H x H' → g x (wipe σ vs) H' fun σ2 H2 => wipe σ2 vs = wipe σ vs ∧ tYes σ2 H2 fun b H3 =>
        if b = true then te σ2 H3 fun y H4 => ∃ acc, H4 D = some (.lst acc) ∧ acc.length < sizeLine ∧ Nx (upd H4 D (.lst (acc ++ [y]))) else Nx H3) := by
  have gD : G D = none := hgh.free hD
  refine lc_it w (fun i H1 => ∃ G1 us, Ext G H G1 H1 ∧ G1 D = none ∧ DpAll K G1 us (es.take i) ∧ H1 D = some (.lst us)) ⟨G, [], (Ext.rfl' hgh).loc hD, gD, .nil, upd_same⟩ (fun i H1 _ q => ?_) (fun i x H1 H1' hi q hY => ?_) (fun H1 q => ?_)
  · obtain ⟨_, _, e, _⟩ := q
    exact hG H1 e.hh
  · obtain ⟨G1, us, e, g1, dp, hu⟩ := q
    have hie : i < es.length := by omega
    have hz : us.length < sizeLine := by
      rw [dp.len, List.length_take]
      exact Nat.lt_of_le_of_lt (Nat.min_le_left _ _) (Nat.lt_of_lt_of_le hi (Nat.le_trans hn (by decide)))
    refine hs i x G1 H1 H1' es[i] hi (List.getElem?_eq_getElem hie) e (some_ne hu) g1 hY _ (fun y G2 H2 e2 d2 => ⟨us, e2.hh _ _ hu, hz, G2, us ++ [y], ?_, ?_, ?_, upd_same⟩)
    · exact (e.trans e2).mut (e2.none (some_ne hu) g1) hD
    · exact e2.none (some_ne hu) g1
    · rw [List.take_add_one, List.getElem?_eq_getElem hie]
      exact (dp.same e2.gg).app (.one d2)
  · obtain ⟨G1, us, e, g1, dp, hu⟩ := q
    rw [hl, List.take_length] at dp
    exact hd G1 H1 us e g1 dp hu
end
end Hk

set_option Elab.async false
set_option linter.all false
set_option maxRecDepth 100000
set_option maxHeartbeats 4000000
namespace Hk
open PySem PySem.Spec PyProof.Rows L2 Hm
section
variable {P : Program} {w : World} {K : PySem.W.Frag} {mg : Str → Option Value} {base : Heap}
/-! ### is_number -/
abbrev st_is_number : Stmt := topS 4
theorem sc_is_number : FnScope ["thing"] ["thing"] (defScope st_is_number) := ⟨rfl, rfl, rfl, by decide +kernel, rfl, by decide +kernel, by decide +kernel⟩
def sp_is_number : Sp := fun vs H Q _ => ∃ i, vs = [.int i] ∧ Q (.bl true) H
theorem kit_int_int {K : PySem.W.Frag} : PySem.W.kitOne K (.type "int") (.type "int") = some true := kit_ty (by decide +kernel)
theorem kit_int_bool {K : PySem.W.Frag} : PySem.W.kitOne K (.type "int") (.type "bool") = some false := kit_ty (by decide +kernel)
theorem kit_tup_tup {K : PySem.W.Frag} : PySem.W.kitOne K (.type "tuple") (.type "tuple") = some true := kit_ty (by decide +kernel)
theorem boot_bool' : bootBuiltins "bool" = some (.type "bool") := by decide +kernel
theorem ok_is_number (S : Src K mg "is_number" st_is_number ["thing"]) (B : Blt mg) : Cal P w K mg base 1 "is_number" ["thing"] sp_is_number := by
  refine S.cal sc_is_number (fun vs H Q E h => ?_) (fun f cdv A outer s H vs Q E hr h => ?_)
  · obtain ⟨i, rfl, _⟩ := h
    rfl
  · obtain ⟨i, rfl, q⟩ := h
    refine ⟨_, pss_one (ps_ret (pe_and (pe_isi B (pv 0) B.int boot_int) (pe_one (pe_not (pe_isi B (pv 0) B.bool boot_bool'))))), ?_⟩
    refine ⟨.int i, rfl, .int i, .ty "int", .type "int", .type "int", true, rfl, .ty _, .base (.int i), kit_int_int, true, rfl, iteT ?_⟩
    exact ⟨.int i, rfl, .int i, .ty "bool", .type "int", .type "bool", false, rfl, .ty _, .base (.int i), kit_int_bool, false, rfl, q⟩
/-! ### is_from -/
abbrev st_is_from : Stmt := topS 5
theorem sc_is_from : FnScope ["thing", "least"] ["thing", "least"] (defScope st_is_from) := ⟨rfl, rfl, rfl, by decide +kernel, rfl, by decide +kernel, by decide +kernel⟩
def sp_is_from : Sp := fun vs H Q _ => ∃ i j, vs = [.int i, .int j] ∧ Q (.bl (decide (j ≤ i))) H
theorem ok_is_from (S : Src K mg "is_from" st_is_from ["thing", "least"]) (C : Cal P w K mg base 1 "is_number" ["thing"] sp_is_number) : Cal P w K mg base 2 "is_from" ["thing", "least"] sp_is_from := by
  refine S.cal sc_is_from (fun vs H Q E h => ?_) (fun f cdv A outer s H vs Q E hr h => ?_)
  · obtain ⟨i, j, rfl, _⟩ := h
    rfl
  · obtain ⟨i, j, rfl, q⟩ := h
    refine ⟨_, pss_one (ps_ret (pe_and (pe_cal C hr (by rfl) (pa_cons (pv 0) pa_nil)) (pe_one (pe_cmpR op_ge (pv 0) (pv 1) (nomark _))))), ?_⟩
    refine ⟨.int i, rfl, i, rfl, true, rfl, iteT ?_⟩
    exact ⟨.int i, rfl, .int j, rfl, i, j, rfl, rfl, q⟩
/-! ### is_within -/
abbrev st_is_within : Stmt := topS 6
theorem sc_is_within : FnScope ["thing", "least", "most"] ["thing", "least", "most"] (defScope st_is_within) := ⟨rfl, rfl, rfl, by decide +kernel, rfl, by decide +kernel, by decide +kernel⟩
def sp_is_within : Sp := fun vs H Q _ => ∃ i j k, vs = [.int i, .int j, .int k] ∧ j ≤ i ∧ i ≤ k ∧ Q (.bl true) H
theorem ok_is_within (S : Src K mg "is_within" st_is_within ["thing", "least", "most"]) (C : Cal P w K mg base 1 "is_number" ["thing"] sp_is_number) : Cal P w K mg base 2 "is_within" ["thing", "least", "most"] sp_is_within := by
  refine S.cal sc_is_within (fun vs H Q E h => ?_) (fun f cdv A outer s H vs Q E hr h => ?_)
  · obtain ⟨i, j, k, rfl, _⟩ := h
    rfl
  · obtain ⟨i, j, k, rfl, h1, h2, q⟩ := h
    refine ⟨_, pss_one (ps_ret (pe_and (pe_cal C hr (by rfl) (pa_cons (pv 0) pa_nil)) (pe_one (pe_chain op_le op_le (pv 1) (pv 0) (pv 2))))), ?_⟩
    refine ⟨.int i, rfl, i, rfl, true, rfl, iteT ?_⟩
    refine ⟨.int j, rfl, .int i, rfl, j, i, rfl, rfl, _, rfl, ?_⟩
    rw [decide_eq_true h1]
    refine iteT ⟨.int k, rfl, i, k, rfl, rfl, ?_⟩
    show Q (.bl (decide (i ≤ k))) H
    rw [decide_eq_true h2]
    exact q
/-! ### is_long -/
abbrev st_is_long : Stmt := topS 7
theorem sc_is_long : FnScope ["thing", "length"] ["thing", "length"] (defScope st_is_long) := ⟨rfl, rfl, rfl, by decide +kernel, rfl, by decide +kernel, by decide +kernel⟩
/-- a tuple that stands as a tracked one -/
def sp_is_long (K : PySem.W.Frag) : Sp := fun vs H Q _ => ∃ v d n, vs = [v, .int n] ∧ Dp K H v (.tuple d) ∧ Q (.bl (decide ((d.length : Int) = n))) H
theorem tyx_tup {K : PySem.W.Frag} {H : Hp} {a : Addr} {xs : List V} (h : SqT K H a xs) : TyX K H (.ref a) (.type "tuple") := by
  rcases h with (h | ⟨o, h⟩) | ⟨o, its, n, hk, hc, _⟩
  · exact .base (.tup h)
  · exact .fTuple h
  · exact .kTuple hk hc
theorem tyx_lst {K : PySem.W.Frag} {H : Hp} {a : Addr} {xs : List V} (h : SqL K H a xs) : TyX K H (.ref a) (.type "list") := by
  rcases h with (h | ⟨o, h⟩) | h
  · exact .base (.lst h)
  · exact .base (.frz h)
  · obtain ⟨o, its, n, hk, hc, _⟩ := h
    exact .kList hk hc
theorem ok_is_long (S : Src K mg "is_long" st_is_long ["thing", "length"]) (B : Blt mg) : Cal P w K mg base 1 "is_long" ["thing", "length"] (sp_is_long K) := by
  refine S.cal sc_is_long (fun vs H Q E h => ?_) (fun f cdv A outer s H vs Q E hr h => ?_)
  · obtain ⟨v, d, n, rfl, _⟩ := h
    rfl
  · obtain ⟨v, d, n, rfl, hd, q⟩ := h
    obtain ⟨a, xs, rfl, h1, h2⟩ := hd.tup_inv
    refine ⟨_, pss_one (ps_ret (pe_and (pe_isi B (pv 0) B.tuple boot_tuple) (pe_one (pe_cmpR op_eq (pe_len B (pv 0)) (pv 1) (nomark _))))), ?_⟩
    refine ⟨.ref a, rfl, .ref a, .ty "tuple", .type "tuple", .type "tuple", true, rfl, .ty _, tyx_tup h1, kit_tup_tup, true, rfl, iteT ?_⟩
    refine ⟨.ref a, rfl, a, xs, rfl, .inr h1, .int n, rfl, rfl, ?_⟩
    have e : decide (V.int ((xs.length : Nat) : Int) = V.int n) = decide ((d.length : Int) = n) := by
      rw [h2.len]
      exact decide_eq_decide.mpr ⟨fun z => V.int.inj z, fun z => congrArg V.int z⟩
    rw [e]
    exact q
end
end Hk

set_option Elab.async false
set_option linter.all false
set_option maxRecDepth 100000
set_option maxHeartbeats 4000000
namespace Hk
open PySem PySem.Spec PyProof.Rows L2 Hm
theorem fm_some {β : Type} (f : Nat → β) (n : Nat) : (List.range n).filterMap (fun i => some (f i)) = (List.range n).map f := by
  rw [← List.filterMap_eq_map]
  rfl
theorem fm_bl (b : Nat → Bool) (n : Nat) : (List.range n).filterMap (fun i => some (V.bl (b i))) = ((List.range n).map b).map V.bl := by
  rw [fm_some, List.map_map]
  rfl
theorem all_rg (b : Nat → Bool) (n : Nat) : ((List.range n).map b).all id = (List.range n).all b := by
  rw [List.all_map]
  rfl
theorem fin_all {K : PySem.W.Frag} {H1 : Hp} {D : Addr} {n : Nat} {b : Nat → Bool} {Q : VK} (h : H1 D = some (.lst ((List.range n).filterMap fun i => some (V.bl (b i))))) (q : Q (.bl ((List.range n).all b)) H1) : rAll K [.ref D] H1 Q :=
  ⟨D, (List.range n).map b, rfl, by rw [← fm_bl]; exact SqL.of h, by rw [all_rg]; exact q⟩
theorem all_true (n : Nat) : ((List.range n).all fun _ => true) = true := List.all_eq_true.mpr fun _ _ => rfl
section
variable {X : Cx} {e : Expr} {te : TE} {p pos : Pos}
theorem pe_all (B : Blt X.mg) (hc : X.calm = true) (ha : PE X e te) (hg : Gl X "all" := by rfl) (hs : starEach [e] X.env = (false, eval e X.env) :: starEach [] X.env := by rfl) : PE X (.Call (.Name "all" p) [e] [] pos) (tCB (rAll X.K) (tCons te tNil)) :=
  pe_callB (cr_all hc) hg B.all boot_all (pa_cons ha pa_nil hs) (he := hs)
end
section
variable {P : Program} {w : World} {K : PySem.W.Frag} {mg : Str → Option Value} {base : Heap}
/-! ### are_numbers -/
abbrev st_are_numbers : Stmt := topS 11
theorem sc_are_numbers : FnScope ["thing", "own"] ["thing"] (defScope st_are_numbers) := ⟨rfl, rfl, rfl, by decide +kernel, rfl, by decide +kernel, by decide +kernel⟩
def sp_are_numbers (K : PySem.W.Frag) : Sp := fun vs H Q _ => ∃ (v : V) (ns : List Int), vs = [v] ∧ Dp K H v (.tuple (ns.map PyData.int)) ∧ ns.length ≤ 1000 ∧ ∀ H', Same H H' → Q (.bl true) H'
theorem ok_are_numbers (S : Src K mg "are_numbers" st_are_numbers ["thing"]) (B : Blt mg) (C : Cal P w K mg base 1 "is_number" ["thing"] sp_is_number) : Cal P w K mg base 2 "are_numbers" ["thing"] (sp_are_numbers K) := by
  refine S.cal sc_are_numbers (fun vs H Q E h => ?_) (fun f cdv A outer s H vs Q E hr h => ?_)
  · obtain ⟨v, ns, rfl, _⟩ := h
    rfl
  · obtain ⟨v, ns, rfl, hd, hl, q⟩ := h
    obtain ⟨a, rfl, hT⟩ := hd.tupI_inv
    refine ⟨_, pss_one (ps_ret (pe_and (pe_isi B (pv 0) B.tuple boot_tuple) (pe_one (pe_all B rfl
      (pe_lc (own := [("own", 1)]) (g := gName 1) (tt := tYes) rfl sc_are_numbers.nd (pi_tup (pv 0)) (blkOk_by (own := [("own", 1)]) (N := ["thing", "own"]) (sc := defScope st_are_numbers) (by decide +kernel))
        (fun _ _ _ _ _ => pg_name (i := 1) sc_are_numbers.nd rfl (Or.inl rfl)) (fun _ _ _ _ _ => pts_nil) (fun _ _ _ _ _ => pe_cal C hr (by rfl) (pa_cons (pv 1) pa_nil))))))), ?_⟩
    refine ⟨.ref a, rfl, .ref a, .ty "tuple", .type "tuple", .type "tuple", true, rfl, .ty _, tyx_tup hT, kit_tup_tup, true, rfl, iteT ?_⟩
    refine ⟨.ref a, rfl, a, rfl, ⟨_, hT⟩, fun D hD => lc_filt walk_tup (fun i => some (.bl true)) ?_ hD (fun H' s => same_seqT s hT) ?_ ?_⟩
    · rw [List.length_map]
      omega
    · intro i x H1 H1' hi s1 hD1 hY R1 R0 h1 h0
      obtain ⟨rfl, hx⟩ := hY
      have hi' : i < ns.length := by rw [List.length_map] at hi; exact hi
      have ex : x = .int ns[i] := by
        rw [List.getElem?_map, List.getElem?_eq_getElem hi'] at hx
        exact (Option.some.inj hx).symm
      subst ex
      exact ⟨rfl, .int ns[i], rfl, _, rfl, h1 _ _ rfl (Same.refl _)⟩
    · intro H1 s1 hD1
      refine fin_all (b := fun _ => true) hD1 ?_
      rw [all_true]
      exact q H1 s1
/-! ### is_pair -/
abbrev st_is_pair : Stmt := topS 13
theorem sc_is_pair : FnScope ["thing"] ["thing"] (defScope st_is_pair) := ⟨rfl, rfl, rfl, by decide +kernel, rfl, by decide +kernel, by decide +kernel⟩
def sp_is_pair (K : PySem.W.Frag) : Sp := fun vs H Q _ => ∃ (v : V) (t : Nat × Nat), vs = [v] ∧ Dp K H v (encP t) ∧ ∀ H', Same H H' → Q (.bl true) H'
theorem ok_is_pair (S : Src K mg "is_pair" st_is_pair ["thing"]) (B : Blt mg) (C : Cal P w K mg base 1 "is_long" ["thing", "length"] (sp_is_long K)) (C2 : Cal P w K mg base 2 "are_numbers" ["thing"] (sp_are_numbers K)) : Cal P w K mg base 3 "is_pair" ["thing"] (sp_is_pair K) := by
  refine S.cal sc_is_pair (fun vs H Q E h => ?_) (fun f cdv A outer s H vs Q E hr h => ?_)
  · obtain ⟨v, t, rfl, _⟩ := h
    rfl
  · obtain ⟨v, t, rfl, hd, q⟩ := h
    refine ⟨_, pss_one (ps_ret (pe_and (pe_cal C (hr.mono (by decide)) (by rfl) (pa_cons (pv 0) (pa_cons pe_int pa_nil))) (pe_one (pe_cal C2 hr (by rfl) (pa_cons (pv 0) pa_nil))))), ?_⟩
    refine ⟨v, rfl, v, _, 2, rfl, hd, true, rfl, iteT ?_⟩
    exact ⟨v, rfl, v, [(t.1 : Int), (t.2 : Int)], rfl, hd, by show 2 ≤ 1000; decide, q⟩
/-! ### is_tie_of -/
abbrev st_is_tie_of : Stmt := topS 14
theorem sc_is_tie_of : FnScope ["many", "number", "thing"] ["many", "number", "thing"] (defScope st_is_tie_of) := ⟨rfl, rfl, rfl, by decide +kernel, rfl, by decide +kernel, by decide +kernel⟩
def sp_is_tie_of (K : PySem.W.Frag) : Sp := fun vs H Q _ => ∃ (m n : Nat) (v : V) (t : Nat × Nat), vs = [.int m, .int n, v] ∧ Dp K H v (encP t) ∧ t.1 < m ∧ t.2 < n ∧ ∀ H', Same H H' → Q (.bl true) H'
theorem ok_is_tie_of (S : Src K mg "is_tie_of" st_is_tie_of ["many", "number", "thing"]) (C : Cal P w K mg base 3 "is_pair" ["thing"] (sp_is_pair K)) : Cal P w K mg base 4 "is_tie_of" ["many", "number", "thing"] (sp_is_tie_of K) := by
  refine S.cal sc_is_tie_of (fun vs H Q E h => ?_) (fun f cdv A outer s H vs Q E hr h => ?_)
  · obtain ⟨m, n, v, t, rfl, _⟩ := h
    rfl
  · obtain ⟨m, n, v, t, rfl, hd, h1, h2, q⟩ := h
    refine ⟨_, pss_one (ps_ret (pe_and (pe_cal C hr (by rfl) (pa_cons (pv 2) pa_nil))
      (pe_and (pe_chain op_le op_lt pe_int (pe_ix ix_tup (pv 2) pe_int (fun _ _ => rfl)) (pv 0)) (pe_one (pe_chain op_le op_lt pe_int (pe_ix ix_tup (pv 2) pe_int (fun _ _ => rfl)) (pv 1)))))), ?_⟩
    refine ⟨v, rfl, v, t, rfl, hd, fun H' s' => ⟨true, rfl, iteT ?_⟩⟩
    obtain ⟨a, rfl, hT⟩ := dp_pair (hd.same s')
    refine ⟨.ref a, rfl, a, _, 0, .int t.1, rfl, rfl, hT, atI_nat (j := 0) rfl, 0, t.1, rfl, rfl, _, rfl, ?_⟩
    rw [decide_eq_true (Int.natCast_nonneg _)]
    refine iteT ⟨.int m, rfl, (t.1 : Int), (m : Int), rfl, rfl, true, ?_, iteT ?_⟩
    · exact congrArg V.bl (decide_eq_true (Int.ofNat_lt.mpr h1))
    · refine ⟨.ref a, rfl, a, _, 1, .int t.2, rfl, rfl, hT, atI_nat (j := 1) rfl, 0, t.2, rfl, rfl, _, rfl, ?_⟩
      rw [decide_eq_true (Int.natCast_nonneg _)]
      refine iteT ⟨.int n, rfl, (t.2 : Int), (n : Int), rfl, rfl, ?_⟩
      show Q (.bl (decide ((t.2 : Int) < n))) H'
      rw [decide_eq_true (Int.ofNat_lt.mpr h2)]
      exact q H' s'
end
end Hk

set_option Elab.async false
set_option linter.all false
set_option maxRecDepth 100000
set_option maxHeartbeats 4000000
namespace Hm
theorem mem_dd {α : Type} [DecidableEq α] : ∀ (l : List α) (x : α), x ∈ dd l ↔ x ∈ l
  | [], x => Iff.rfl
  | y :: r, x => by
    unfold dd
    by_cases h : y ∈ r
    · rw [if_pos h, mem_dd r x, List.mem_cons]
      exact ⟨.inr, fun z => z.elim (fun e => by rw [e]; exact h) id⟩
    · rw [if_neg h, List.mem_cons, List.mem_cons, mem_dd r x]
theorem dd_nodup {α : Type} [DecidableEq α] : ∀ (l : List α), (dd l).Nodup
  | [] => List.nodup_nil
  | y :: r => by
    unfold dd
    by_cases h : y ∈ r
    · rw [if_pos h]
      exact dd_nodup r
    · rw [if_neg h, List.nodup_cons]
      exact ⟨fun z => h ((mem_dd r y).mp z), dd_nodup r⟩
theorem nodup_le {α : Type} [DecidableEq α] : ∀ (l d : List α), l.Nodup → (∀ x ∈ l, x ∈ d) → l.length ≤ d.length
  | [], _, _, _ => Nat.zero_le _
  | x :: l, d, hn, hs => by
    obtain ⟨h1, h2⟩ := List.nodup_cons.mp hn
    have hx : x ∈ d := hs x List.mem_cons_self
    have ih := nodup_le l (d.erase x) h2 fun y hy => by
      have hne : y ≠ x := fun e => h1 (e ▸ hy)
      exact (List.mem_erase_of_ne hne).mpr (hs y (List.mem_cons_of_mem _ hy))
    rw [List.length_erase_of_mem hx] at ih
    have hp : 0 < d.length := List.length_pos_of_mem hx
    rw [List.length_cons]
    omega
theorem nodup_len {α : Type} [DecidableEq α] {l d : List α} (h1 : l.Nodup) (h2 : d.Nodup) (h : ∀ x, x ∈ l ↔ x ∈ d) : l.length = d.length :=
  Nat.le_antisymm (nodup_le l d h1 fun x hx => (h x).mp hx) (nodup_le d l h2 fun x hx => (h x).mpr hx)
theorem marked_len (marks : List Nat) (many : Nat) (t : Nat × Nat) : (marked marks many t).length = marks.length := by
  unfold marked
  split
  · rfl
  · rw [List.length_map]
theorem grown_len : ∀ (ts : List (Nat × Nat)) (marks : List Nat) (many : Nat), (grown marks many ts).length = marks.length
  | [], _, _ => rfl
  | t :: ts, marks, many => by
    show (grown (marked marks many t) many ts).length = _
    rw [grown_len ts, marked_len]
theorem grown_app (marks : List Nat) (many : Nat) (ts us : List (Nat × Nat)) : grown marks many (ts ++ us) = grown (grown marks many ts) many us := by
  unfold grown
  rw [List.foldl_append]
theorem ascB_at : ∀ {ts : List (Nat × Nat)} {k : Nat} {a b : Nat × Nat}, ascB ts = true → ts[k]? = some a → ts[k + 1]? = some b → pairLt a b = true
  | [], k, a, b, _, h, _ => by simp at h
  | [_], k, a, b, _, _, h => by simp at h
  | x :: y :: r, 0, a, b, h, h1, h2 => by
    have e1 : x = a := by simpa using h1
    have e2 : y = b := by simpa using h2
    subst e1
    subst e2
    exact (Bool.and_eq_true _ _ ▸ h : pairLt x y = true ∧ ascB (y :: r) = true).1
  | x :: y :: r, k + 1, a, b, h, h1, h2 => by
    have h3 := (Bool.and_eq_true _ _ ▸ h : pairLt x y = true ∧ ascB (y :: r) = true).2
    exact ascB_at (ts := y :: r) (k := k) h3 (by simpa using h1) (by simpa using h2)
end Hm
namespace Hk
open PySem PySem.Spec PyProof.Rows L2 Hm
theorem iN_len (l : List Nat) : (iN l).length = l.length := List.length_map _
theorem at_iN {l : List Nat} {i : Nat} (h : i < l.length) : ((iN l).map V.int)[i]? = some (.int ((l.getD i 0 : Nat) : Int)) := by
  unfold iN
  rw [List.map_map, List.getElem?_map, List.getElem?_eq_getElem h, List.getD_eq_getElem?_getD, List.getElem?_eq_getElem h]
  rfl
theorem mem_iN {l : List Nat} {x : Int} : x ∈ iN l ↔ ∃ n, n ∈ l ∧ (n : Int) = x := List.mem_map
theorem iN_nodup {l : List Nat} (h : l.Nodup) : (iN l).Nodup := by
  unfold iN
  induction l with
  | nil => exact List.nodup_nil
  | cons x r ih =>
    obtain ⟨h1, h2⟩ := List.nodup_cons.mp h
    rw [List.map_cons, List.nodup_cons]
    refine ⟨fun z => ?_, ih h2⟩
    obtain ⟨y, hy, e⟩ := List.mem_map.mp z
    have e' : y = x := Int.ofNat.inj e
    exact h1 (e' ▸ hy)
theorem lex_pair {a b : Nat × Nat} (h : pairLt a b = true) : HT.lexLt [(a.1 : Int), (a.2 : Int)] [(b.1 : Int), (b.2 : Int)] = true := by
  unfold pairLt at h
  rw [HT.lexLt_cons, HT.lexLt_cons]
  simp only [Bool.or_eq_true, Bool.and_eq_true, decide_eq_true_eq, beq_iff_eq] at h
  rcases h with h | ⟨h1, h2⟩
  · rw [if_neg (by omega)]
    exact decide_eq_true (by omega)
  · rw [if_pos (by omega), if_neg (by omega)]
    exact decide_eq_true (by omega)
section
variable {P : Program} {w : World} {K : PySem.W.Frag} {mg : Str → Option Value} {base : Heap}
/-! ### ascends -/
abbrev st_ascends : Stmt := topS 9
theorem sc_ascends : FnScope ["row", "k"] ["row"] (defScope st_ascends) := ⟨rfl, rfl, rfl, by decide +kernel, rfl, by decide +kernel, by decide +kernel⟩
def sp_ascends (K : PySem.W.Frag) : Sp := fun vs H Q _ => ∃ (v : V) (ts : List (Nat × Nat)), vs = [v] ∧ Dp K H v (encTs ts) ∧ ts.length ≤ 1000 ∧ ascB ts = true ∧ ∀ H', Same H H' → Q (.bl true) H'
theorem ok_ascends (S : Src K mg "ascends" st_ascends ["row"]) (B : Blt mg) : Cal P w K mg base 1 "ascends" ["row"] (sp_ascends K) := by
  refine S.cal sc_ascends (fun vs H Q E h => ?_) (fun f cdv A outer s H vs Q E hr h => ?_)
  · obtain ⟨v, ts, rfl, _⟩ := h
    rfl
  · obtain ⟨v, ts, rfl, hd, hl, has, q⟩ := h
    obtain ⟨a, xs, rfl, hT, hA⟩ := dp_ties hd
    have hxl : xs.length = ts.length := by rw [hA.len, List.length_map]
    refine ⟨_, pss_one (ps_ret (pe_all B rfl
      (pe_lc (own := [("k", 1)]) (g := gName 1) (tt := tYes) rfl sc_ascends.nd (pi_range1 (by rfl) B.range (pa_cons (pe_op op_sub (pe_len B (pv 0)) pe_int) pa_nil)) (blkOk_by (own := [("k", 1)]) (N := ["row", "k"]) (sc := defScope st_ascends) (by decide +kernel))
        (fun _ _ _ _ _ => pg_name (i := 1) sc_ascends.nd rfl (Or.inl rfl)) (fun _ _ _ _ _ => pts_nil)
        (fun _ _ _ _ _ => pe_cmpR (ltT K hr.units0) (pe_ix (ixT K) (pv 0) (pv 1) (fun _ _ => rfl)) (pe_ix (ixT K) (pv 0) (pe_op op_add (pv 1) pe_int) (fun _ _ => rfl)) (nomark _))))), ?_⟩
    refine ⟨.ref a, rfl, a, xs, rfl, .inr hT, _, _, rfl, rfl, _, rfl, by omega, by omega, fun D hD => lc_filt walk_range (fun i => some (.bl true)) (by omega) hD (fun _ _ => trivial) ?_ ?_⟩
    · intro i x H1 H1' hi s1 hD1 hY R1 R0 h1 h0
      obtain ⟨rfl, rfl⟩ := hY
      have i1 : i < ts.length := by omega
      have i2 : i + 1 < ts.length := by omega
      have hA1 := hA.same s1
      obtain ⟨x1, e1, d1⟩ := hA1.at (i := i) (d := encP ts[i]) (by rw [List.getElem?_map, List.getElem?_eq_getElem i1]; rfl)
      obtain ⟨x2, e2, d2⟩ := hA1.at (i := i + 1) (d := encP ts[i + 1]) (by rw [List.getElem?_map, List.getElem?_eq_getElem i2]; rfl)
      obtain ⟨p1, rfl, t1⟩ := dp_pair d1
      obtain ⟨p2, rfl, t2⟩ := dp_pair d2
      have hT1 := same_seqT s1 hT
      refine ⟨rfl, .ref a, rfl, .int (0 + (i : Int)), rfl, a, xs, _, .ref p1, rfl, rfl, hT1, at_of (j := i) (by omega) e1, .ref a, rfl, .int (0 + (i : Int)), rfl, _, _, rfl, rfl, a, xs, _, .ref p2, rfl, rfl, hT1, at_of (j := i + 1) (by omega) e2, ?_⟩
      refine ⟨p1, p2, [(ts[i].1 : Int), (ts[i].2 : Int)], [(ts[i + 1].1 : Int), (ts[i + 1].2 : Int)], rfl, rfl, t1, t2, ?_⟩
      rw [lex_pair (ascB_at has (List.getElem?_eq_getElem i1) (List.getElem?_eq_getElem i2))]
      exact h1 _ _ rfl (Same.refl _)
    · intro H1 s1 hD1
      refine fin_all (b := fun _ => true) hD1 ?_
      rw [all_true]
      exact q H1 s1
end
end Hk

set_option Elab.async false
set_option linter.all false
set_option maxRecDepth 100000
set_option maxHeartbeats 4000000
namespace Hk
open PySem PySem.Spec PyProof.Rows L2 Hm
theorem decI (a b : Int) : decide (V.int a = V.int b) = decide (a = b) := decide_eq_decide.mpr ⟨fun z => V.int.inj z, fun z => congrArg V.int z⟩
theorem decN (a b : Nat) : decide (V.int (a : Int) = V.int (b : Int)) = decide (a = b) := by
  rw [decI]
  exact decide_eq_decide.mpr ⟨fun z => Int.ofNat.inj z, fun z => congrArg Int.ofNat z⟩
theorem ex_at {ns : List Int} {i : Nat} {x : V} (h : (ns.map V.int)[i]? = some x) : ∃ k, ns[i]? = some k ∧ x = .int k := by
  rw [List.getElem?_map] at h
  cases e : ns[i]? with
  | none => rw [e] at h; cases h
  | some k => rw [e] at h; exact ⟨k, rfl, (Option.some.inj h).symm⟩
theorem cast_if (n a b : Nat) : (if (n : Int) = (a : Int) then (b : Int) else (n : Int)) = ((if n = a then b else n : Nat) : Int) := by
  by_cases z : n = a
  · rw [if_pos z, if_pos (by rw [z])]
  · rw [if_neg z, if_neg (show ¬ ((n : Int) = (a : Int)) from fun y => z (Int.ofNat.inj y))]
theorem fm_list {α β : Type} (l : List α) (f : α → Option β) : (List.range l.length).filterMap (fun i => l[i]?.bind f) = l.filterMap f := by
  induction l with
  | nil => rfl
  | cons x r ih =>
    rw [List.length_cons, List.range_succ_eq_map, List.filterMap_cons, List.filterMap_map]
    have e : (fun i => (x :: r)[i]?.bind f) ∘ Nat.succ = fun i => r[i]?.bind f := by
      funext i
      simp
    rw [e, ih, List.filterMap_cons]
    simp
section
variable {P : Program} {w : World} {K : PySem.W.Frag} {mg : Str → Option Value} {base : Heap}
/-! ### marked -/
abbrev st_marked : Stmt := topS 15
abbrev N_marked : List Str := ["marks", "many", "tie", "near", "far", "own"]
theorem sc_marked : FnScope N_marked ["marks", "many", "tie"] (defScope st_marked) := ⟨rfl, rfl, rfl, by decide +kernel, rfl, by decide +kernel, by decide +kernel⟩
def sp_marked (K : PySem.W.Frag) : Sp := fun vs H Q _ => ∃ (v tv : V) (marks : List Nat) (many : Nat) (t : Nat × Nat) (G : Hp), vs = [v, .int many, tv] ∧ Same G H ∧ Dp K G v (lstI (iN marks)) ∧ Dp K H tv (encP t) ∧
  t.1 < marks.length ∧ many + t.2 < marks.length ∧ marks.length ≤ 1000 ∧ ∀ v' G' H', Ext G H G' H' → Dp K G' v' (lstI (iN (marked marks many t))) → Q v' H'
theorem ok_marked (S : Src K mg "marked" st_marked ["marks", "many", "tie"]) (B : Blt mg) : Cal P w K mg base 1 "marked" ["marks", "many", "tie"] (sp_marked K) := by
  refine S.cal sc_marked (fun vs H Q E h => ?_) (fun f cdv A outer s H vs Q E hr h => ?_)
  · obtain ⟨v, tv, marks, many, t, G, rfl, _⟩ := h
    rfl
  · obtain ⟨v, tv, marks, many, t, G, rfl, hG, hd, ht, h1, h2, hl, q⟩ := h
    obtain ⟨a, rfl, hA⟩ := (hd.same hG).lstI_inv
    obtain ⟨b, rfl, hB⟩ := dp_pair ht
    refine ⟨_, pss_cons (ps_asg (pe_tup (pa_cons (pe_ix ix_list (pv 0) (pe_ix ix_tup (pv 2) pe_int (fun _ _ => rfl)) (fun _ _ => rfl)) (pa_cons (pe_ix ix_list (pv 0) (pe_op op_add (pv 1) (pe_ix ix_tup (pv 2) pe_int (fun _ _ => rfl))) (fun _ _ => rfl)) pa_nil)))
        (pg_tup (by rfl) (pgs_cons (pg_name (i := 3) sc_marked.nd rfl (.inr rfl)) (pgs_cons (pg_name (i := 4) sc_marked.nd rfl (.inr rfl)) pgs_nil))))
      (pss_one (ps_ret (pe_ifExp (pt_cmpR op_eq (pv 3) (pv 4) (nomark _)) (pv 0)
        (pe_lc (own := [("own", 5)]) (g := gName 5) (tt := tYes) rfl sc_marked.nd (pi_list (pv 0)) (blkOk_by (own := [("own", 5)]) (N := N_marked) (sc := defScope st_marked) (by decide +kernel))
          (fun _ _ _ _ _ => pg_name (i := 5) sc_marked.nd rfl (Or.inl rfl)) (fun _ _ _ _ _ => pts_nil)
          (fun _ _ _ _ _ => pe_ifExp (pt_cmpR op_eq (pv 5) (pv 4) (nomark _)) (pv 3) (pv 5)))))), ?_⟩
    refine ⟨.ref a, rfl, .ref b, rfl, b, _, 0, .int t.1, rfl, rfl, hB, atI_nat (j := 0) rfl, a, _, _, .int ((marks.getD t.1 0 : Nat) : Int), rfl, rfl, hA, atI_nat (at_iN h1), ?_⟩
    refine ⟨.ref a, rfl, .int many, rfl, .ref b, rfl, b, _, 1, .int t.2, rfl, rfl, hB, atI_nat (j := 1) rfl, _, _, rfl, rfl, a, _, _, .int ((marks.getD (many + t.2) 0 : Nat) : Int), rfl, rfl, hA, at_of (j := many + t.2) (by omega) (at_iN h2), ?_⟩
    refine ⟨by show 2 ≤ sizeLine; decide, fun p hp => ?_⟩
    refine ⟨p, _, rfl, st_new, rfl, _, _, rfl, _, _, rfl, rfl, ?_⟩
    refine ⟨_, rfl, _, rfl, rfl, _, rfl, ?_⟩
    have e1 := Ext.rfl' hG
    rw [decN]
    refine ite2 (fun c => ?_) (fun c => ?_)
    · have c' := of_decide_eq_true c
      refine ⟨.ref a, rfl, ?_⟩
      refine q _ G _ (e1.loc hp) ?_
      unfold marked
      rw [if_pos c']
      exact hd
    · have c' := of_decide_eq_false (Bool.eq_false_iff.mpr c)
      have s1 : Same H (upd H p (.tup [.int ((marks.getD t.1 0 : Nat) : Int), .int ((marks.getD (many + t.2) 0 : Nat) : Int)])) := same_new hp _
      refine ⟨.ref a, rfl, a, rfl, ⟨_, s1.seq hA⟩, fun D hD => lc_filt (walk_list (xs := (iN marks).map V.int)) (fun i => ((iN marks)[i]?).bind fun own => some (V.int (if own = ((marks.getD (many + t.2) 0 : Nat) : Int) then ((marks.getD t.1 0 : Nat) : Int) else own))) ?_ hD (fun H' s => s.seq (s1.seq hA)) ?_ ?_⟩
      · rw [List.length_map, iN_len]
        omega
      · intro i x H1 H1' hi s2 hD1 hY R1 R0 g1 g0
        obtain ⟨rfl, hx⟩ := hY
        obtain ⟨k, hk, rfl⟩ := ex_at hx
        refine ⟨rfl, _, rfl, _, rfl, rfl, _, rfl, ?_⟩
        rw [decI]
        refine ite2 (fun z => ?_) (fun z => ?_)
        · refine ⟨_, rfl, g1 _ _ ?_ (Same.refl _)⟩
          rw [hk]
          show some (V.int (if k = _ then _ else k)) = _
          rw [if_pos (of_decide_eq_true z)]
        · refine ⟨_, rfl, g1 _ _ ?_ (Same.refl _)⟩
          rw [hk]
          show some (V.int (if k = _ then _ else k)) = _
          rw [if_neg (of_decide_eq_false (Bool.eq_false_iff.mpr z))]
      · intro H1 s2 hD1
        have hl1 : ((iN marks).map V.int).length = (iN marks).length := List.length_map _
        rw [hl1, fm_list] at hD1
        have e2 : (iN marks).filterMap (fun own => some (V.int (if own = ((marks.getD (many + t.2) 0 : Nat) : Int) then ((marks.getD t.1 0 : Nat) : Int) else own))) = (iN (marked marks many t)).map V.int := by
          unfold marked
          rw [if_neg c']
          unfold iN
          rw [List.filterMap_map, List.map_map, List.map_map]
          have e3 : ∀ l : List Nat, l.filterMap ((fun own : Int => some (V.int (if own = ((marks.getD (many + t.2) 0 : Nat) : Int) then ((marks.getD t.1 0 : Nat) : Int) else own))) ∘ fun (n : Nat) => (n : Int)) = l.map (V.int ∘ (fun (n : Nat) => (n : Int)) ∘ fun own => if own = marks.getD (many + t.2) 0 then marks.getD t.1 0 else own) := by
            intro l
            rw [← List.filterMap_eq_map]
            congr 1
            funext n
            show some (V.int (if (n : Int) = _ then _ else (n : Int))) = some (V.int ((if n = _ then _ else n : Nat) : Int))
            rw [cast_if]
          exact e3 marks
        rw [e2] at hD1
        have hH : Same H H1 := s1.trans s2
        have hDn : H D = none := s1.free hD
        refine q _ (upd G D (.lst ((iN (marked marks many t)).map V.int))) H1 ((Ext.of_same hG hH).give hDn (hG.free hDn) hD1) (Dp.lstI sq_new)
/-! ### grown_from -/
abbrev st_grown_from : Stmt := topS 16
abbrev N_grown : List Str := ["marks", "many", "ties", "tie"]
theorem sc_grown_from : FnScope N_grown ["marks", "many", "ties"] (defScope st_grown_from) := ⟨rfl, rfl, rfl, by decide +kernel, rfl, by decide +kernel, by decide +kernel⟩
def sp_grown_from (K : PySem.W.Frag) : Sp := fun vs H Q _ => ∃ (v tv : V) (marks : List Nat) (many : Nat) (ts : List (Nat × Nat)) (G : Hp), vs = [v, .int many, tv] ∧ Same G H ∧ Dp K G v (lstI (iN marks)) ∧ (Dp K H tv (encTs ts) ∨ Dp K H tv (.list (ts.map encP))) ∧
  (∀ t ∈ ts, t.1 < marks.length ∧ many + t.2 < marks.length) ∧ marks.length ≤ 1000 ∧ ∀ v' G' H', Ext G H G' H' → Dp K G' v' (lstI (iN (grown marks many ts))) → Q v' H'
theorem ok_grown_from (S : Src K mg "grown_from" st_grown_from ["marks", "many", "ties"]) (C : Cal P w K mg base 1 "marked" ["marks", "many", "tie"] (sp_marked K)) : Cal P w K mg base 2 "grown_from" ["marks", "many", "ties"] (sp_grown_from K) := by
  refine S.cal sc_grown_from (fun vs H Q E h => ?_) (fun f cdv A outer s H vs Q E hr h => ?_)
  · obtain ⟨v, tv, marks, many, ts, G, rfl, _⟩ := h
    rfl
  · obtain ⟨v, tv, marks, many, ts, G, rfl, hG, hd, ht, hb, hl, q⟩ := h
    -- one turn, whatever is walked
    have turn : ∀ (xs : List V) (i : Nat) (x : V) (H1 : Hp), DpAll K H1 xs (ts.map encP) → i < xs.length → xs[i]? = some x → ∃ t, ts[i]? = some t ∧ t ∈ ts ∧ Dp K H1 x (encP t) := by
      intro xs i x H1 hA hi hx
      obtain ⟨d, hd1, hd2⟩ := hA.back hx
      rw [List.getElem?_map] at hd1
      cases e : ts[i]? with
      | none => rw [e] at hd1; cases hd1
      | some t =>
        rw [e] at hd1
        have e2 := Option.some.inj hd1
        exact ⟨t, rfl, List.mem_of_getElem? e, by rw [show encP t = d from e2]; exact hd2⟩
    have step : ∀ (i : Nat) (t : Nat × Nat), ts[i]? = some t → grown marks many (ts.take (i + 1)) = marked (grown marks many (ts.take i)) many t := by
      intro i t e
      rw [List.take_add_one, e, Option.toList_some, grown_app]
      rfl
    rcases ht with ht | ht
    · obtain ⟨b, xs, rfl, hT, hA⟩ := dp_ties ht
      have hxl : xs.length = ts.length := by rw [hA.len, List.length_map]
      refine ⟨_, pss_cons (ps_for PassesOwn.never rfl (pi_tup (pv 2)) (pg_name (i := 3) sc_grown_from.nd rfl (.inl rfl)) (pss_one (ps_set (i := 0) sc_grown_from.nd rfl (.inl rfl) (pe_cal C hr (by rfl) (pa_cons (pv 0) (pa_cons (pv 1) (pa_cons (pv 3) pa_nil)))))))
        (pss_one (ps_ret (pv 0))), ?_⟩
      refine ⟨.ref b, rfl, b, rfl, ⟨_, hT⟩, for_it (walk_tup (xs := xs)) (fun i σ H1 => ∃ G1 v1 y, σ = [some v1, some (.int many), some (.ref b), y] ∧ Ext G H G1 H1 ∧ Dp K G1 v1 (lstI (iN (grown marks many (ts.take i)))))
        ⟨G, v, none, rfl, Ext.rfl' hG, hd⟩ (fun i σ H1 _ p => ?_) (fun i x σ H1 H1' hi p hY => ?_) (fun σ H1 p => ?_)⟩
      · obtain ⟨_, _, _, _, e, _⟩ := p
        exact same_seqT e.hh hT
      · obtain ⟨G1, v1, y, rfl, e, d⟩ := p
        obtain ⟨rfl, hx⟩ := hY
        obtain ⟨t, h1, h2, h3⟩ := turn xs i x H1' (hA.same e.hh) hi hx
        have hb2 := hb t h2
        refine ⟨_, rfl, _, rfl, _, rfl, v1, x, grown marks many (ts.take i), many, t, G1, rfl, e.gh, d, h3, by rw [grown_len]; exact hb2.1, by rw [grown_len]; exact hb2.2, by rw [grown_len]; exact hl, fun v' G' H' e' d' => ?_⟩
        exact ⟨G', v', some x, rfl, e.trans e', by rw [step i t h1]; exact d'⟩
      · obtain ⟨G1, v1, y, rfl, e, d⟩ := p
        rw [hxl, List.take_length] at d
        exact ⟨_, rfl, q v1 G1 H1 e d⟩
    · obtain ⟨b, xs, rfl, hT, hA⟩ := ht.lst_inv
      have hxl : xs.length = ts.length := by rw [hA.len, List.length_map]
      refine ⟨_, pss_cons (ps_for PassesOwn.never rfl (pi_list (pv 2)) (pg_name (i := 3) sc_grown_from.nd rfl (.inl rfl)) (pss_one (ps_set (i := 0) sc_grown_from.nd rfl (.inl rfl) (pe_cal C hr (by rfl) (pa_cons (pv 0) (pa_cons (pv 1) (pa_cons (pv 3) pa_nil)))))))
        (pss_one (ps_ret (pv 0))), ?_⟩
      refine ⟨.ref b, rfl, b, rfl, ⟨_, hT⟩, for_it (walk_list (xs := xs)) (fun i σ H1 => ∃ G1 v1 y, σ = [some v1, some (.int many), some (.ref b), y] ∧ Ext G H G1 H1 ∧ Dp K G1 v1 (lstI (iN (grown marks many (ts.take i)))))
        ⟨G, v, none, rfl, Ext.rfl' hG, hd⟩ (fun i σ H1 _ p => ?_) (fun i x σ H1 H1' hi p hY => ?_) (fun σ H1 p => ?_)⟩
      · obtain ⟨_, _, _, _, e, _⟩ := p
        exact e.hh.seq hT
      · obtain ⟨G1, v1, y, rfl, e, d⟩ := p
        obtain ⟨rfl, hx⟩ := hY
        obtain ⟨t, h1, h2, h3⟩ := turn xs i x H1' (hA.same e.hh) hi hx
        have hb2 := hb t h2
        refine ⟨_, rfl, _, rfl, _, rfl, v1, x, grown marks many (ts.take i), many, t, G1, rfl, e.gh, d, h3, by rw [grown_len]; exact hb2.1, by rw [grown_len]; exact hb2.2, by rw [grown_len]; exact hl, fun v' G' H' e' d' => ?_⟩
        exact ⟨G', v', some x, rfl, e.trans e', by rw [step i t h1]; exact d'⟩
      · obtain ⟨G1, v1, y, rfl, e, d⟩ := p
        rw [hxl, List.take_length] at d
        exact ⟨_, rfl, q v1 G1 H1 e d⟩
end
end Hk

set_option Elab.async false
set_option linter.all false
set_option maxRecDepth 100000
set_option maxHeartbeats 4000000
namespace Hk
open PySem PySem.Spec PyProof.Rows L2 Hm
/-! ### data of a bounded depth -/
def fit : Nat → PyData → Bool
  | n + 1, .int _ => true
  | n + 1, .list ds => decide (ds.length ≤ 1000) && ds.all (fit n)
  | n + 1, .tuple ds => decide (ds.length ≤ 1000) && ds.all (fit n)
  | _, _ => false
/-- lists become tuples -/
def tupX : Nat → PyData → PyData
  | n + 1, .list ds => .tuple (ds.map (tupX n))
  | n + 1, .tuple ds => .tuple (ds.map (tupX n))
  | _, d => d
theorem kit_lt_list {K : PySem.W.Frag} : PySem.W.kitAny K (.type "list") [.type "list", .type "tuple"] = some true := kitAny_cons (b := true) (kit_ty (by decide +kernel)) (fun h => nomatch h) (fun _ => rfl)
theorem kit_lt_tup {K : PySem.W.Frag} : PySem.W.kitAny K (.type "tuple") [.type "list", .type "tuple"] = some true := kitAny_cons (b := false) (kit_ty (by decide +kernel)) (fun _ => kitAny_cons (b := true) (kit_ty (by decide +kernel)) (fun h => nomatch h) (fun _ => rfl)) (fun h => nomatch h)
theorem kit_lt_int {K : PySem.W.Frag} : PySem.W.kitAny K (.type "int") [.type "list", .type "tuple"] = some false := kitAny_cons (b := false) (kit_ty (by decide +kernel)) (fun _ => kitAny_cons (b := false) (kit_ty (by decide +kernel)) (fun _ => kitAny_nil) (fun h => nomatch h)) (fun h => nomatch h)
theorem paired_lt : Paired ClsV [.ty "list", .ty "tuple"] [.type "list", .type "tuple"] := .cons (.ty _) (.cons (.ty _) .nil)
section
variable {P : Program} {w : World} {K : PySem.W.Frag} {mg : Str → Option Value} {base : Heap}
theorem Cal.never {x : Str} {st : Stmt} {ps : List Str} {k : Nat} (S : Src K mg x st ps) : Cal P w K mg base k x ps (fun _ _ _ _ => False) := by
  obtain ⟨f, fd, F, b, m⟩ := S.ex
  exact ⟨f, fd, ⟨fun vs H Q E h => h.elim, fun A outer s H args us vs Q E _ _ _ _ h => h.elim⟩, b, F.kp, m⟩
/-! ### tupled -/
abbrev st_tupled : Stmt := topS 8
abbrev N_tupled : List Str := ["value", "own"]
theorem sc_tupled : FnScope N_tupled ["value"] (defScope st_tupled) := ⟨rfl, rfl, rfl, by decide +kernel, rfl, by decide +kernel, by decide +kernel⟩
def sp_tupled (K : PySem.W.Frag) (n : Nat) : Sp := fun vs H Q _ => ∃ (v : V) (d : PyData) (G : Hp), vs = [v] ∧ Same G H ∧ Dp K G v d ∧ fit n d = true ∧ ∀ v' G' H', Ext G H G' H' → Dp K G' v' (tupX n d) → Q v' H'
theorem fit_list {n : Nat} {ds : List PyData} (h : fit (n + 1) (.list ds) = true) : ds.length ≤ 1000 ∧ ∀ d ∈ ds, fit n d = true := by
  have h' : (decide (ds.length ≤ 1000) && ds.all (fit n)) = true := h
  rw [Bool.and_eq_true, decide_eq_true_eq, List.all_eq_true] at h'
  exact h'
theorem fit_tuple {n : Nat} {ds : List PyData} (h : fit (n + 1) (.tuple ds) = true) : ds.length ≤ 1000 ∧ ∀ d ∈ ds, fit n d = true := fit_list (ds := ds) h
theorem ok_tupled (S : Src K mg "tupled" st_tupled ["value"]) (B : Blt mg) : ∀ n, Cal P w K mg base n "tupled" ["value"] (sp_tupled K n)
  | 0 => (Cal.never S).imp fun vs H Q E h => by
    obtain ⟨v, d, G, _, _, _, hf, _⟩ := h
    cases d <;> cases hf
  | n + 1 => by
    have C := ok_tupled S B n
    refine S.cal sc_tupled (fun vs H Q E h => ?_) (fun f cdv A outer s H vs Q E hr h => ?_)
    · obtain ⟨v, d, G, rfl, _⟩ := h
      rfl
    · obtain ⟨v, d, G, rfl, hG, hd, hf, q⟩ := h
      have body : ∀ (xs : List V) (ds : List PyData), DpAll K G xs ds → (∀ d ∈ ds, fit n d = true) → ∀ (i : Nat) (x : V) (G1 H1 : Hp) (e : PyData), xs[i]? = some x → (ds.map (tupX n))[i]? = some e → Ext G H G1 H1 →
          ∀ (R : V → Hp → Prop), (∀ y G2 H2, Ext G1 H1 G2 H2 → Dp K G2 y e → R y H2) → sp_tupled K n [x] H1 R E0 := by
        intro xs ds hA hall i x G1 H1 e hx he hE R hR
        obtain ⟨d, h1, h2⟩ := hA.back hx
        rw [List.getElem?_map, h1] at he
        have e2 : tupX n d = e := Option.some.inj he
        subst e2
        exact ⟨x, d, G1, rfl, hE.gh, h2.same hE.gg, hall d (List.mem_of_getElem? h1), hR⟩
      have fin : ∀ (ds : List PyData) (D : Addr) (H0 G1 H1 : Hp) (us : List V), Same H H0 → H0 D = none → Ext G H0 G1 H1 → G1 D = none → DpAll K G1 us (ds.map (tupX n)) → H1 D = some (.lst us) → tupX (n + 1) d = .tuple (ds.map (tupX n)) → ∀ l, H1 l = none → Q (.ref l) (upd H1 l (.tup us)) := by
        intro ds D H0 G1 H1 us h0 hD hE gD hA hus ed l hl
        have hE2 : Ext G H G1 H1 := (Ext.of_same hG h0).trans hE
        exact q _ _ _ (hE2.new hl) (by rw [ed]; exact .tup st_new (hA.same (same_new (hE2.gh.free hl) _)))
      cases d with
      | int i =>
        have ev := hd.int_inv
        subst ev
        refine ⟨_, pss_one (ps_ret (pe_ifExp (pt_val (pe_callB call_isiT (by rfl) B.isinstance boot_isinstance (pa_cons (pv 0) (pa_cons (pe_tup (pa_cons (pe_bltn (v := .ty "list") (by rfl) B.list boot_list rfl) (pa_cons (pe_bltn (v := .ty "tuple") (by rfl) B.tuple boot_tuple rfl) pa_nil))) pa_nil))))
          (pe_callTy call_tuple_of (by rfl) B.tuple boot_tuple (pa_cons (pe_lc (own := [("own", 1)]) (g := gName 1) (tt := tYes) rfl sc_tupled.nd (pi_tup (pv 0)) (blkOk_by (own := [("own", 1)]) (N := N_tupled) (sc := defScope st_tupled) (by decide +kernel))
            (fun _ _ _ _ _ => pg_name (i := 1) sc_tupled.nd rfl (Or.inl rfl)) (fun _ _ _ _ _ => pts_nil) (fun _ _ _ _ _ => pe_cal C hr (by rfl) (pa_cons (pv 1) pa_nil))) pa_nil)) (pv 0))), ?_⟩
        refine ⟨.int i, rfl, by show 2 ≤ sizeLine; decide, fun p hp => ?_⟩
        refine ⟨.int i, p, [.ty "list", .ty "tuple"], .type "int", _, false, rfl, upd_same, paired_lt, .base (.int i), kit_lt_int, false, rfl, iteF ?_⟩
        exact ⟨.int i, rfl, q _ G _ ((Ext.rfl' hG).loc hp) (.int i)⟩
      | list ds =>
        obtain ⟨hl, hall⟩ := fit_list hf
        obtain ⟨a, xs, rfl, hL, hA⟩ := hd.lst_inv
        have hxl : xs.length = ds.length := hA.len
        refine ⟨_, pss_one (ps_ret (pe_ifExp (pt_val (pe_callB call_isiT (by rfl) B.isinstance boot_isinstance (pa_cons (pv 0) (pa_cons (pe_tup (pa_cons (pe_bltn (v := .ty "list") (by rfl) B.list boot_list rfl) (pa_cons (pe_bltn (v := .ty "tuple") (by rfl) B.tuple boot_tuple rfl) pa_nil))) pa_nil))))
          (pe_callTy call_tuple_of (by rfl) B.tuple boot_tuple (pa_cons (pe_lc (own := [("own", 1)]) (g := gName 1) (tt := tYes) rfl sc_tupled.nd (pi_list (pv 0)) (blkOk_by (own := [("own", 1)]) (N := N_tupled) (sc := defScope st_tupled) (by decide +kernel))
            (fun _ _ _ _ _ => pg_name (i := 1) sc_tupled.nd rfl (Or.inl rfl)) (fun _ _ _ _ _ => pts_nil) (fun _ _ _ _ _ => pe_cal C hr (by rfl) (pa_cons (pv 1) pa_nil))) pa_nil)) (pv 0))), ?_⟩
        refine ⟨.ref a, rfl, by show 2 ≤ sizeLine; decide, fun p hp => ?_⟩
        have s0 : Same H (upd H p (.tup [.ty "list", .ty "tuple"])) := same_new hp _
        have hL1 := s0.seq (hG.seq hL)
        refine ⟨.ref a, p, [.ty "list", .ty "tuple"], .type "list", _, true, rfl, upd_same, paired_lt, tyx_lst hL1, kit_lt_list, true, rfl, iteT ?_⟩
        refine ⟨.ref a, rfl, a, rfl, ⟨_, hL1⟩, fun D hD => lc_data (K := K) (G := G) (walk_list (xs := xs)) (ds.map (tupX n)) (by rw [List.length_map]; exact hxl) (by omega) (hG.trans s0) hD (fun H' s => s.seq hL1) ?_ ?_⟩
        · intro i x G1 H1 H1' e hi he hE hD1 gD hY R hR
          obtain ⟨rfl, hx⟩ := hY
          exact ⟨rfl, _, rfl, body xs ds hA hall i x G1 H1' e hx he ((Ext.of_same hG s0).trans hE) R hR⟩
        · intro G1 H1 us hE gD hA1 hus
          refine ⟨D, us, rfl, .inl ⟨SqL.of hus, fun l hl => ?_⟩⟩
          exact fin ds D _ G1 H1 us s0 hD hE gD hA1 hus rfl l hl
      | tuple ds =>
        obtain ⟨hl, hall⟩ := fit_tuple hf
        obtain ⟨a, xs, rfl, hL, hA⟩ := hd.tup_inv
        have hxl : xs.length = ds.length := hA.len
        refine ⟨_, pss_one (ps_ret (pe_ifExp (pt_val (pe_callB call_isiT (by rfl) B.isinstance boot_isinstance (pa_cons (pv 0) (pa_cons (pe_tup (pa_cons (pe_bltn (v := .ty "list") (by rfl) B.list boot_list rfl) (pa_cons (pe_bltn (v := .ty "tuple") (by rfl) B.tuple boot_tuple rfl) pa_nil))) pa_nil))))
          (pe_callTy call_tuple_of (by rfl) B.tuple boot_tuple (pa_cons (pe_lc (own := [("own", 1)]) (g := gName 1) (tt := tYes) rfl sc_tupled.nd (pi_tup (pv 0)) (blkOk_by (own := [("own", 1)]) (N := N_tupled) (sc := defScope st_tupled) (by decide +kernel))
            (fun _ _ _ _ _ => pg_name (i := 1) sc_tupled.nd rfl (Or.inl rfl)) (fun _ _ _ _ _ => pts_nil) (fun _ _ _ _ _ => pe_cal C hr (by rfl) (pa_cons (pv 1) pa_nil))) pa_nil)) (pv 0))), ?_⟩
        refine ⟨.ref a, rfl, by show 2 ≤ sizeLine; decide, fun p hp => ?_⟩
        have s0 : Same H (upd H p (.tup [.ty "list", .ty "tuple"])) := same_new hp _
        have hL1 := same_seqT s0 (same_seqT hG hL)
        refine ⟨.ref a, p, [.ty "list", .ty "tuple"], .type "tuple", _, true, rfl, upd_same, paired_lt, tyx_tup hL1, kit_lt_tup, true, rfl, iteT ?_⟩
        refine ⟨.ref a, rfl, a, rfl, ⟨_, hL1⟩, fun D hD => lc_data (K := K) (G := G) (walk_tup (xs := xs)) (ds.map (tupX n)) (by rw [List.length_map]; exact hxl) (by omega) (hG.trans s0) hD (fun H' s => same_seqT s hL1) ?_ ?_⟩
        · intro i x G1 H1 H1' e hi he hE hD1 gD hY R hR
          obtain ⟨rfl, hx⟩ := hY
          exact ⟨rfl, _, rfl, body xs ds hA hall i x G1 H1' e hx he ((Ext.of_same hG s0).trans hE) R hR⟩
        · intro G1 H1 us hE gD hA1 hus
          refine ⟨D, us, rfl, .inl ⟨SqL.of hus, fun l hl => ?_⟩⟩
          exact fin ds D _ G1 H1 us s0 hD hE gD hA1 hus rfl l hl
      | _ => cases hf
end
end Hk

set_option Elab.async false
set_option linter.all false
set_option maxRecDepth 100000
set_option maxHeartbeats 4000000
namespace Hk
open PySem PySem.Spec PyProof.Rows L2 Hm
theorem rgV_iN (n : Nat) : rgV 0 (n : Int) = (iN (List.range n)).map V.int := by
  unfold rgV iN
  rw [List.map_map, Int.sub_zero, Int.toNat_natCast]
  apply List.map_congr_left
  intro i _
  show V.int (0 + (i : Int)) = V.int (i : Int)
  rw [Int.zero_add]
theorem okWeb_inv {w : Web} (h : okWeb w = true) : 1 ≤ w.m ∧ 1 ≤ w.n ∧ (∀ t ∈ w.ties, t.1 < w.m ∧ t.2 < w.n) ∧ ascB w.ties = true ∧ w.m + w.n ≤ w.ties.length + 1 ∧ hangs w.m w.n w.ties = true := by
  unfold okWeb at h
  simp only [Bool.and_eq_true, decide_eq_true_eq, List.all_eq_true] at h
  obtain ⟨⟨⟨⟨⟨h1, h2⟩, h3⟩, h4⟩, h5⟩, h6⟩ := h
  exact ⟨h1, h2, h3, h4, h5, h6⟩
/-- webs that are walked: small ones -/
def Small (w : Web) : Prop := w.m ≤ 3 ∧ w.n ≤ 3 ∧ w.ties.length ≤ 9
section
variable {P : Program} {w : World} {K : PySem.W.Frag} {mg : Str → Option Value} {base : Heap}
/-! ### set_of -/
abbrev st_set_of : Stmt := topS 10
theorem sc_set_of : FnScope ["row"] ["row"] (defScope st_set_of) := ⟨rfl, rfl, rfl, by decide +kernel, rfl, by decide +kernel, by decide +kernel⟩
def sp_set_of (K : PySem.W.Frag) : Sp := fun vs H Q _ => ∃ (v : V) (ns : List Int), vs = [v] ∧ Dp K H v (lstI ns) ∧ ns.length < 64 ∧ ∀ (p : Addr) (H' : Hp) (ns' : List Int), Same H H' → H' p = some (.tup (ns'.map V.int)) → ns'.Nodup → (∀ k, k ∈ ns' ↔ k ∈ ns) → Q (.ref p) H'
theorem ok_set_of (S : Src K mg "set_of" st_set_of ["row"]) (B : Blt mg) : Cal P w K mg base 1 "set_of" ["row"] (sp_set_of K) := by
  refine S.cal sc_set_of (fun vs H Q E h => ?_) (fun f cdv A outer s H vs Q E hr h => ?_)
  · obtain ⟨v, ns, rfl, _⟩ := h
    rfl
  · obtain ⟨v, ns, rfl, hd, hl, q⟩ := h
    obtain ⟨a, rfl, hL⟩ := hd.lstI_inv
    refine ⟨_, pss_one (ps_ret (pe_callTy call_tuple_of (by rfl) B.tuple boot_tuple (pa_cons (pe_callB (cr_sortedSet rfl) (by rfl) B.sorted boot_sorted (pa_cons (pe_callTy (cr_setI rfl) (by rfl) B.set PyProof.Rows.boot_set (pa_cons (pv 0) pa_nil)) pa_nil)) pa_nil))), ?_⟩
    refine ⟨.ref a, rfl, a, ns, rfl, hL, by omega, fun b c hb hc => ?_⟩
    refine ⟨b, _, c, rfl, upd_same, by omega, fun ns' p hs hm hl' hp => ?_⟩
    refine ⟨p, _, rfl, .inl ⟨sq_new, fun l hl2 => ?_⟩⟩
    refine q l _ ns' (((same_new hb _).trans (same_new hp _)).trans (same_new hl2 _)) upd_same (hs.imp fun h => Int.ne_of_lt h) fun k => ?_
    rw [hm k, decide_eq_true_eq]
/-! ### hangs_in -/
abbrev st_hangs_in : Stmt := topS 17
theorem sc_hangs_in : FnScope ["many", "number", "ties"] ["many", "number", "ties"] (defScope st_hangs_in) := ⟨rfl, rfl, rfl, by decide +kernel, rfl, by decide +kernel, by decide +kernel⟩
def sp_hangs_in (K : PySem.W.Frag) : Sp := fun vs H Q _ => ∃ (m n : Nat) (tv : V) (ts : List (Nat × Nat)), vs = [.int m, .int n, tv] ∧ Dp K H tv (encTs ts) ∧ (∀ t ∈ ts, t.1 < m ∧ t.2 < n) ∧ m + n ≤ 60 ∧ ∀ H', Same H H' → Q (.bl (hangs m n ts)) H'
theorem ok_hangs_in (S : Src K mg "hangs_in" st_hangs_in ["many", "number", "ties"]) (B : Blt mg) (C : Cal P w K mg base 2 "grown_from" ["marks", "many", "ties"] (sp_grown_from K)) : Cal P w K mg base 3 "hangs_in" ["many", "number", "ties"] (sp_hangs_in K) := by
  refine S.cal sc_hangs_in (fun vs H Q E h => ?_) (fun f cdv A outer s H vs Q E hr h => ?_)
  · obtain ⟨m, n, tv, ts, rfl, _⟩ := h
    rfl
  · obtain ⟨m, n, tv, ts, rfl, ht, hb, hl, q⟩ := h
    refine ⟨_, pss_one (ps_ret (pe_cmpR op_eq (pe_callB cr_lenSet (by rfl) B.len PySem.boot_len (pa_cons (pe_callTy (cr_setI rfl) (by rfl) B.set PyProof.Rows.boot_set (pa_cons
      (pe_cal C hr (by rfl) (pa_cons (pe_listRg rfl (by rfl) B.list (prg_1 (by rfl) B.range (pe_op op_add (pv 0) (pv 1)))) (pa_cons (pv 0) (pa_cons (pv 2) pa_nil)))) pa_nil)) pa_nil)) pe_int (nomark _))), ?_⟩
    have e0 : (m : Int) + (n : Int) = ((m + n : Nat) : Int) := by omega
    refine ⟨.int m, rfl, .int n, rfl, (m : Int), (n : Int), rfl, rfl, _, rfl, RgOk.of_le (by omega) (by omega) (by omega) (by omega), fun p hp => ?_⟩
    rw [e0, rgV_iN]
    have s0 : Same H (upd H p (.lst ((iN (List.range (m + n))).map V.int))) := same_new hp _
    refine ⟨.int m, rfl, tv, rfl, .ref p, tv, List.range (m + n), m, ts, _, rfl, Same.refl _, Dp.lstI sq_new, .inl (ht.same s0), fun t h => ?_, by rw [List.length_range]; omega, fun v' G' H' hE hd' => ?_⟩
    · have hb2 := hb t h
      rw [List.length_range]
      exact ⟨by omega, by omega⟩
    · obtain ⟨b, rfl, hL⟩ := (hd'.same hE.gh).lstI_inv
      have hlen : (iN (grown (List.range (m + n)) m ts)).length ≤ 1000 := by rw [iN_len, grown_len, List.length_range]; omega
      refine ⟨b, _, rfl, hL, hlen, fun c k hc hk => ?_⟩
      refine ⟨c, _, k, rfl, upd_same, fun ds hn hm hl2 => ?_⟩
      refine ⟨rfl, ?_⟩
      have e1 : k = (dd (grown (List.range (m + n)) m ts)).length := by
        have e2 : ds.length = (iN (dd (grown (List.range (m + n)) m ts))).length := nodup_len hn (iN_nodup (dd_nodup _)) fun x => by
          rw [← hm x, decide_eq_true_eq, mem_iN, mem_iN]
          exact ⟨fun ⟨y, h1, h2⟩ => ⟨y, (mem_dd _ _).mpr h1, h2⟩, fun ⟨y, h1, h2⟩ => ⟨y, (mem_dd _ _).mp h1, h2⟩⟩
        rw [← hl2, e2, iN_len]
      have e3 : decide (V.int ((k : Nat) : Int) = V.int 1) = hangs m n ts := by
        rw [e1]
        unfold hangs
        rw [decI]
        by_cases z : (dd (grown (List.range (m + n)) m ts)).length = 1
        · rw [z]
          rfl
        · rw [decide_eq_false (by omega)]
          exact (beq_eq_false_iff_ne.mpr z).symm
      rw [e3]
      exact q _ ((s0.trans hE.hh).trans (same_new hc _))
/-! ### is_web -/
abbrev st_is_web : Stmt := topS 18
abbrev N_is_web : List Str := ["thing", "own"]
theorem sc_is_web : FnScope N_is_web ["thing"] (defScope st_is_web) := ⟨rfl, rfl, rfl, by decide +kernel, rfl, by decide +kernel, by decide +kernel⟩
def sp_is_web (K : PySem.W.Frag) : Sp := fun vs H Q _ => ∃ (v : V) (wb : Web), vs = [v] ∧ Dp K H v (encW wb) ∧ okWeb wb = true ∧ Small wb ∧ ∀ H', Same H H' → Q (.bl true) H'
theorem ok_is_web (S : Src K mg "is_web" st_is_web ["thing"]) (B : Blt mg) (C1 : Cal P w K mg base 1 "is_long" ["thing", "length"] (sp_is_long K)) (C2 : Cal P w K mg base 2 "is_from" ["thing", "least"] sp_is_from)
    (C3 : Cal P w K mg base 4 "is_tie_of" ["many", "number", "thing"] (sp_is_tie_of K)) (C4 : Cal P w K mg base 1 "ascends" ["row"] (sp_ascends K)) (C5 : Cal P w K mg base 3 "hangs_in" ["many", "number", "ties"] (sp_hangs_in K)) : Cal P w K mg base 5 "is_web" ["thing"] (sp_is_web K) := by
  refine S.cal sc_is_web (fun vs H Q E h => ?_) (fun f cdv A outer s H vs Q E hr h => ?_)
  · obtain ⟨v, wb, rfl, _⟩ := h
    rfl
  · obtain ⟨v, wb, rfl, hd, hok, ⟨hm3, hn3, ht9⟩, q⟩ := h
    obtain ⟨h1, h2, h3, h4, h5, h6⟩ := okWeb_inv hok
    obtain ⟨a, t, rfl, hT, hd3⟩ := dp_web hd
    obtain ⟨t', xs, et, hTs, hA⟩ := dp_ties hd3
    cases et
    have hxl : xs.length = wb.ties.length := by rw [hA.len, List.length_map]
    have ix0 : PE (cxOf CX0 P w K mg base N_is_web "is_web" (defScope st_is_web) f cdv A outer s H E).nox (.Subscript (.Name "thing" ⟨0,0,0,0⟩) (.Constant (.int 0) 0 ⟨0,0,0,0⟩) ⟨0,0,0,0⟩) (tOp (rIxT K) (tVar 0) (tC (.int 0))) := pe_ix (ixT K) (pv 0) pe_int (fun _ _ => rfl)
    refine ⟨_, pss_cons (ps_if (PW.pt (pw_or (pt_not (pt_val (pe_cal C1 (hr.mono (by decide)) (by rfl) (pa_cons (pv 0) (pa_cons pe_int pa_nil)))))
        (pw_or (pt_not (pt_val (pe_cal C2 (hr.mono (by decide)) (by rfl) (pa_cons (pe_ix (ixT K) (pv 0) pe_int (fun _ _ => rfl)) (pa_cons pe_int pa_nil)))))
        (pw_or1 (pt_not (pt_val (pe_cal C2 (hr.mono (by decide)) (by rfl) (pa_cons (pe_ix (ixT K) (pv 0) pe_int (fun _ _ => rfl)) (pa_cons pe_int pa_nil)))))))))
        (pss_one (ps_ret pe_bl)) pss_nil)
      (pss_cons (ps_if (PW.pt (pw_or (pt_not (pt_val (pe_isi B (pe_ix (ixT K) (pv 0) pe_int (fun _ _ => rfl)) B.tuple boot_tuple)))
        (pw_or1 (pt_not (pt_val (pe_all B rfl (pe_lc (own := [("own", 1)]) (g := gName 1) (tt := tYes) rfl sc_is_web.nd (pi_tup (pe_ix (ixT K) (pv 0) pe_int (fun _ _ => rfl))) (blkOk_by (own := [("own", 1)]) (N := N_is_web) (sc := defScope st_is_web) (by decide +kernel))
            (fun _ _ _ _ _ => pg_name (i := 1) sc_is_web.nd rfl (Or.inl rfl)) (fun _ _ _ _ _ => pts_nil)
            (fun _ _ _ _ _ => pe_cal C3 hr (by rfl) (pa_cons (pe_ix (ixT K) (pv 0) pe_int (fun _ _ => rfl)) (pa_cons (pe_ix (ixT K) (pv 0) pe_int (fun _ _ => rfl)) (pa_cons (pv 1) pa_nil)))))))))))
        (pss_one (ps_ret pe_bl)) pss_nil)
      (pss_one (ps_ret (pe_and (pe_cal C4 (hr.mono (by decide)) (by rfl) (pa_cons (pe_ix (ixT K) (pv 0) pe_int (fun _ _ => rfl)) pa_nil))
        (pe_and (pe_cmpR op_ge (pe_len B (pe_ix (ixT K) (pv 0) pe_int (fun _ _ => rfl))) (pe_op op_sub (pe_op op_add (pe_ix (ixT K) (pv 0) pe_int (fun _ _ => rfl)) (pe_ix (ixT K) (pv 0) pe_int (fun _ _ => rfl))) pe_int) (nomark _))
        (pe_one (pe_cal C5 (hr.mono (by decide)) (by rfl) (pa_cons (pe_ix (ixT K) (pv 0) pe_int (fun _ _ => rfl)) (pa_cons (pe_ix (ixT K) (pv 0) pe_int (fun _ _ => rfl)) (pa_cons (pe_ix (ixT K) (pv 0) pe_int (fun _ _ => rfl)) pa_nil)))))))))), ?_⟩
    -- not is_long ..
    refine ⟨.ref a, rfl, .ref a, _, 3, rfl, hd, true, rfl, ?_⟩
    refine iteF ?_
    refine ⟨.ref a, rfl, a, _, 0, .int wb.m, rfl, rfl, hT, atI_nat (j := 0) rfl, _, _, rfl, _, rfl, ?_⟩
    rw [decide_eq_true (show (1 : Int) ≤ (wb.m : Int) by omega)]
    refine iteF ?_
    refine ⟨.ref a, rfl, a, _, 1, .int wb.n, rfl, rfl, hT, atI_nat (j := 1) rfl, _, _, rfl, _, rfl, ?_⟩
    rw [decide_eq_true (show (1 : Int) ≤ (wb.n : Int) by omega)]
    refine iteF ?_
    -- isinstance(thing[2], tuple), all ..
    refine ⟨.ref a, rfl, a, _, 2, .ref t, rfl, rfl, hT, atI_nat (j := 2) rfl, .ref t, .ty "tuple", .type "tuple", .type "tuple", true, rfl, .ty _, tyx_tup hTs, kit_tup_tup, true, rfl, ?_⟩
    refine iteF ?_
    refine ⟨.ref a, rfl, a, _, 2, .ref t, rfl, rfl, hT, atI_nat (j := 2) rfl, t, rfl, ⟨_, hTs⟩, fun D hD => lc_filt (walk_tup (xs := xs)) (fun _ => some (.bl true)) (by omega) hD (fun H' s => same_seqT s hTs) ?_ ?_⟩
    · intro i x H1 H1' hi s1 hD1 hY R1 R0 g1 g0
      obtain ⟨rfl, hx⟩ := hY
      obtain ⟨d, hd1, hd2⟩ := (hA.same s1).back hx
      rw [List.getElem?_map] at hd1
      have hi2 : i < wb.ties.length := by omega
      rw [List.getElem?_eq_getElem hi2] at hd1
      have e2 := Option.some.inj hd1
      subst e2
      have hb := h3 _ (List.getElem_mem hi2)
      have hT1 := same_seqT s1 hT
      exact ⟨rfl, .ref a, rfl, a, _, 0, .int wb.m, rfl, rfl, hT1, atI_nat (j := 0) rfl, .ref a, rfl, a, _, 1, .int wb.n, rfl, rfl, hT1, atI_nat (j := 1) rfl, x, rfl, wb.m, wb.n, x, _, rfl, hd2, hb.1, hb.2, fun H3 s3 => g1 _ _ rfl s3⟩
    · intro H1 s1 hD1
      refine ⟨D, (List.range xs.length).map fun _ => true, rfl, (by rw [← fm_bl]; exact SqL.of hD1), ?_⟩
      rw [all_rg, all_true]
      refine ⟨true, rfl, iteF ?_⟩
      have hT1 := same_seqT s1 hT
      have hTs1 := same_seqT s1 hTs
      refine ⟨.ref a, rfl, a, _, 2, .ref t, rfl, rfl, hT1, atI_nat (j := 2) rfl, .ref t, wb.ties, rfl, hd3.same s1, by omega, h4, fun H2 s2 => ⟨true, rfl, iteT ?_⟩⟩
      have hT2 := same_seqT s2 hT1
      refine ⟨.ref a, rfl, a, _, 2, .ref t, rfl, rfl, hT2, atI_nat (j := 2) rfl, t, xs, rfl, .inr (same_seqT s2 hTs1), ?_⟩
      refine ⟨.ref a, rfl, a, _, 0, .int wb.m, rfl, rfl, hT2, atI_nat (j := 0) rfl, .ref a, rfl, a, _, 1, .int wb.n, rfl, rfl, hT2, atI_nat (j := 1) rfl, _, _, rfl, rfl, _, _, rfl, rfl, _, _, rfl, rfl, true, ?_, iteT ?_⟩
      · exact congrArg V.bl (decide_eq_true (by rw [hxl]; omega))
      · refine ⟨.ref a, rfl, a, _, 0, .int wb.m, rfl, rfl, hT2, atI_nat (j := 0) rfl, .ref a, rfl, a, _, 1, .int wb.n, rfl, rfl, hT2, atI_nat (j := 1) rfl, .ref a, rfl, a, _, 2, .ref t, rfl, rfl, hT2, atI_nat (j := 2) rfl, wb.m, wb.n, .ref t, wb.ties, rfl, (hd3.same s1).same s2, h3, by omega, fun H3 s3 => ?_⟩
        rw [h6]
        exact q H3 ((s1.trans s2).trans s3)
/-! ### sure_web -/
abbrev st_sure_web : Stmt := topS 19
theorem sc_sure_web : FnScope ["web", "own"] ["web"] (defScope st_sure_web) := ⟨rfl, rfl, rfl, by decide +kernel, rfl, by decide +kernel, by decide +kernel⟩
def sp_sure_web (K : PySem.W.Frag) : Sp := fun vs H Q _ => ∃ (v : V) (d : PyData) (wb : Web) (G : Hp), vs = [v] ∧ Same G H ∧ Dp K G v d ∧ fit 4 d = true ∧ tupX 4 d = encW wb ∧ okWeb wb = true ∧ Small wb ∧ ∀ v' G' H', Ext G H G' H' → Dp K G' v' (encW wb) → Q v' H'
theorem ok_sure_web (S : Src K mg "sure_web" st_sure_web ["web"]) (C1 : Cal P w K mg base 4 "tupled" ["value"] (sp_tupled K 4)) (C2 : Cal P w K mg base 5 "is_web" ["thing"] (sp_is_web K)) : Cal P w K mg base 6 "sure_web" ["web"] (sp_sure_web K) := by
  refine S.cal sc_sure_web (fun vs H Q E h => ?_) (fun f cdv A outer s H vs Q E hr h => ?_)
  · obtain ⟨v, d, wb, G, rfl, _⟩ := h
    rfl
  · obtain ⟨v, d, wb, G, rfl, hG, hd, hf, hx, hok, hsm, q⟩ := h
    refine ⟨_, pss_cons (ps_set (i := 1) sc_sure_web.nd rfl (.inl rfl) (pe_cal C1 (hr.mono (by decide)) (by rfl) (pa_cons (pv 0) pa_nil)))
      (pss_cons (ps_if (pt_not (pt_val (pe_cal C2 hr (by rfl) (pa_cons (pv 1) pa_nil)))) (pss_one ps_never) pss_nil)
      (pss_one (ps_ret (pv 1)))), ?_⟩
    refine ⟨v, rfl, v, d, G, rfl, hG, hd, hf, fun v' G' H' hE hd' => ?_⟩
    rw [hx] at hd'
    refine ⟨v', rfl, v', wb, rfl, hd'.same hE.gh, hok, hsm, fun H2 s2 => ⟨true, rfl, iteF ?_⟩⟩
    exact ⟨v', rfl, q v' G' H2 (hE.same s2) hd'⟩
/-! ### sure_side -/
abbrev st_sure_side : Stmt := topS 20
theorem sc_sure_side : FnScope ["side"] ["side"] (defScope st_sure_side) := ⟨rfl, rfl, rfl, by decide +kernel, rfl, by decide +kernel, by decide +kernel⟩
def sp_sure_side : Sp := fun vs H Q _ => ∃ (s : Nat), vs = [.int s] ∧ s ≤ 1 ∧ Q (.int s) H
theorem ok_sure_side (S : Src K mg "sure_side" st_sure_side ["side"]) (C : Cal P w K mg base 2 "is_within" ["thing", "least", "most"] sp_is_within) : Cal P w K mg base 3 "sure_side" ["side"] sp_sure_side := by
  refine S.cal sc_sure_side (fun vs H Q E h => ?_) (fun f cdv A outer s H vs Q E hr h => ?_)
  · obtain ⟨i, rfl, _⟩ := h
    rfl
  · obtain ⟨i, rfl, hi, q⟩ := h
    refine ⟨_, pss_cons (ps_if (pt_not (pt_val (pe_cal C hr (by rfl) (pa_cons (pv 0) (pa_cons pe_int (pa_cons pe_int pa_nil)))))) (pss_one ps_never) pss_nil)
      (pss_one (ps_ret (pv 0))), ?_⟩
    refine ⟨.int i, rfl, (i : Int), 0, 1, rfl, by omega, by omega, true, rfl, iteF ?_⟩
    exact ⟨.int i, rfl, q⟩
end
end Hk

set_option Elab.async false
set_option linter.all false
set_option maxRecDepth 100000
set_option maxHeartbeats 4000000
namespace Hk
open PySem PySem.Spec PyProof.Rows L2 Hm
/-! ### rules with the written part told -/
section
variable {X : Cx}
def rTupOf (K : PySem.W.Frag) : List V → Hp → VK → Prop := fun xs H Q => ∃ p ys, xs = [V.ref p] ∧ ((SqL K H p ys ∧ ∀ l, H l = none → Q (.ref l) (upd H l (.tup ys))) ∨ (SqT K H p ys ∧ Q (.ref p) H))
theorem tupOf (K : PySem.W.Frag) (h : X.K = K := by rfl) : CallR X (.type "tuple") (rTupOf K) := h ▸ call_tuple_of
end
theorem fm_map {α β : Type} (l : List α) (f : α → β) : (List.range l.length).filterMap (fun i => l[i]?.bind fun x => some (f x)) = l.map f := by
  rw [fm_list, ← List.filterMap_eq_map]
  rfl
theorem fm_if {α β : Type} (l : List α) (p : α → Bool) (f : α → β) : (List.range l.length).filterMap (fun i => l[i]?.bind fun x => if p x = true then some (f x) else none) = (l.filter p).map f := by
  rw [fm_list]
  induction l with
  | nil => rfl
  | cons x r ih =>
    rw [List.filterMap_cons, List.filter_cons]
    by_cases h : p x = true
    · rw [if_pos h, if_pos h, List.map_cons, ih]
    · rw [if_neg h, if_neg h, ih]
def selV (side : Nat) (t : Nat × Nat) : V := .int ((sel side t : Nat) : Int)
theorem tie_at {H : Hp} {K : PySem.W.Frag} {a : Addr} {t : Nat × Nat} {s : Nat} (hs : s ≤ 1) (h : SqT K H a [.int (t.1 : Int), .int (t.2 : Int)]) : atI [V.int (t.1 : Int), V.int (t.2 : Int)] ((s : Nat) : Int) = some (selV s t) := by
  have : s = 0 ∨ s = 1 := by omega
  rcases this with rfl | rfl
  · exact atI_nat (j := 0) rfl
  · exact atI_nat (j := 1) rfl
theorem other_side {s : Nat} (hs : s ≤ 1) : (1 : Int) - (s : Int) = ((1 - s : Nat) : Int) := by omega
/-- a dict whose keys are the first i of lot -/
def Known (H : Hp) (d : Addr) (ns : List Int) : Prop := ∃ kvs : List (Key × V), H d = some (.dK kvs) ∧ kvs.length ≤ ns.length ∧ ∀ n : Int, (valV kvs (.inl n)).isSome = decide (n ∈ ns)
theorem Known.same {H H' : Hp} {d : Addr} {ns : List Int} (h : Known H d ns) (s : Same H H') : Known H' d ns := by
  obtain ⟨kvs, h1, h2⟩ := h
  exact ⟨kvs, s _ _ h1, h2⟩
theorem Known.put {H : Hp} {d : Addr} {ns : List Int} {kvs : List (Key × V)} (h1 : H d = some (.dK kvs)) (h2 : kvs.length ≤ ns.length) (h3 : ∀ n : Int, (valV kvs (.inl n)).isSome = decide (n ∈ ns)) (k : Int) (v : V) : Known (upd H d (.dK (putK kvs (.inl k) v))) d (ns ++ [k]) := by
  refine ⟨_, upd_same, ?_, fun n => ?_⟩
  · have := length_putK kvs (Sum.inl k) v
    rw [List.length_append, List.length_singleton]
    omega
  · rw [valV_put]
    by_cases e : n = k
    · subst e
      rw [if_pos rfl, decide_eq_true (by simp)]
      rfl
    · rw [if_neg (fun z => e (Sum.inl.inj z)), h3 n]
      exact decide_eq_decide.mpr (by simp [e])
theorem iN_take (l : List Nat) (i : Nat) : iN (l.take i) = (iN l).take i := List.map_take
theorem iN_at {l : List Nat} {i : Nat} {x : V} (h : ((iN l).map V.int)[i]? = some x) : ∃ n, l[i]? = some n ∧ x = .int (n : Int) := by
  unfold iN at h
  rw [List.map_map, List.getElem?_map] at h
  cases e : l[i]? with
  | none => rw [e] at h; cases h
  | some n => rw [e] at h; exact ⟨n, rfl, (Option.some.inj h).symm⟩
theorem mem_iN' {l : List Nat} {n : Nat} : ((n : Nat) : Int) ∈ iN l ↔ n ∈ l := by
  rw [mem_iN]
  exact ⟨fun ⟨m, h1, h2⟩ => (Int.ofNat.inj h2) ▸ h1, fun h => ⟨n, h, rfl⟩⟩
section
variable {P : Program} {w : World} {K : PySem.W.Frag} {mg : Str → Option Value} {base : Heap}
/-- the reading of {own: True for own in lot} -/
theorem known_dc {σ : L2.St} {H : Hp} {a D : Addr} {lot : List Nat} {i0 : Nat} (hi0 : i0 < σ.length) (hT : SqT K H a ((iN lot).map V.int)) (hD : H D = none) (hl : lot.length ≤ 1000) {Qd : Hp → Prop} (hd : ∀ H1, Same H H1 → Known H1 D (iN lot) → Qd H1) :
    ∃ W : Nat → Nat → Hp → Prop, (∃ m, W 0 m (upd H D (.dK []))) ∧ ∀ i m H, W i m H →
      ((Itt K a).stop i H ∧ Qd H) ∨ ((Itt K a).go i H ∧ ∃ Nx : Hp → Prop, (∀ H', Nx H' → ∃ m', m' < m ∧ W (i + 1) m' H') ∧ ∀ x H', (Itt K a).yld i H x H' → gName i0 x (wipe σ [i0]) H' fun σ2 H2 => wipe σ2 [i0] = wipe σ [i0] ∧ tYes σ2 H2 fun b H3 =>
        if b = true then tVar i0 σ2 H3 fun y H4 => tC (.bl true) σ2 H4 fun z H5 => ∃ kvs k, y = kV k ∧ H5 D = some (.dK kvs) ∧ kvs.length < sizeLine ∧ Nx (upd H5 D (.dK (putK kvs k z))) else Nx H3) := by
  refine dc_tup (K := K) (a := a) (xs := (iN lot).map V.int) (fun i H1 => Same H H1 ∧ Known H1 D (iN (lot.take i))) ⟨same_new hD _, [], upd_same, Nat.zero_le _, fun n => by simp [valV_nil, iN]⟩ (fun i H1 _ p => same_seqT p.1 hT) (fun i x H1 hx p => ?_) (fun H1 p => ?_)
  · obtain ⟨s1, kvs, h1, h2, h3⟩ := p
    obtain ⟨n, hn, rfl⟩ := iN_at hx
    have e0 : wipe σ [i0] = σ.set i0 none := rfl
    have e1 : (wipe σ [i0]).set i0 (some (.int (n : Int))) = σ.set i0 (some (.int (n : Int))) := by rw [e0, List.set_set]
    refine ⟨?_, .int (n : Int), ?_, kvs, .inl (n : Int), rfl, h1, ?_, same_mut s1 hD, ?_⟩
    · show (((wipe σ [i0]).set i0 (some (V.int (n : Int)))).set i0 none) = wipe σ [i0]
      rw [e1, e0, List.set_set]
    · rw [e1]
      exact List.getElem?_set_self hi0
    · rw [iN_len, List.length_take] at h2
      exact small1000 (Nat.le_trans h2 (Nat.le_trans (Nat.min_le_right _ _) hl))
    · have e2 : iN (lot.take (i + 1)) = iN (lot.take i) ++ [(n : Int)] := by
        rw [List.take_add_one, hn]
        unfold iN
        rw [List.map_append]
        rfl
      rw [e2]
      exact Known.put h1 h2 h3 _ _
  · have e : ((iN lot).map V.int).length = lot.length := by rw [List.length_map, iN_len]
    rw [e, List.take_length] at p
    exact hd H1 p.1 p.2
/-! ### neighbours_in -/
abbrev st_nb : Stmt := topS 21
abbrev N_nb : List Str := ["web", "side", "lot", "known", "own", "tie"]
theorem sc_nb : FnScope N_nb ["web", "side", "lot"] (defScope st_nb) := ⟨rfl, rfl, rfl, by decide +kernel, rfl, by decide +kernel, by decide +kernel⟩
def sp_nb (K : PySem.W.Frag) : Sp := fun vs H Q _ => ∃ (v lv : V) (wb : Web) (side : Nat) (lot : List Nat), vs = [v, .int side, lv] ∧ Dp K H v (encW wb) ∧ side ≤ 1 ∧ Dp K H lv (.tuple ((iN lot).map PyData.int)) ∧ lot.length ≤ 1000 ∧ wb.ties.length ≤ 9 ∧
  ∀ (p : Addr) (H' : Hp) (ns : List Int), Same H H' → H' p = some (.tup (ns.map V.int)) → ns.length = (nbs wb side lot).length → Q (.ref p) H'
theorem ok_nb (S : Src K mg "neighbours_in" st_nb ["web", "side", "lot"]) (B : Blt mg) (C : Cal P w K mg base 1 "set_of" ["row"] (sp_set_of K)) : Cal P w K mg base 2 "neighbours_in" ["web", "side", "lot"] (sp_nb K) := by
  refine S.cal sc_nb (fun vs H Q E h => ?_) (fun f cdv A outer s H vs Q E hr h => ?_)
  · obtain ⟨v, lv, wb, side, lot, rfl, _⟩ := h
    rfl
  · obtain ⟨v, lv, wb, side, lot, rfl, hd, hs, hlv, hl, ht9, q⟩ := h
    obtain ⟨a, t, rfl, hT, hd3⟩ := dp_web hd
    obtain ⟨t', xs, et, hTs, hA⟩ := dp_ties hd3
    cases et
    obtain ⟨b, rfl, hL⟩ := hlv.tupI_inv
    have hxl : xs.length = wb.ties.length := by rw [hA.len, List.length_map]
    refine ⟨_, pss_cons (ps_set (i := 3) sc_nb.nd rfl (.inr rfl) (pe_dc (own := [("own", 4)]) (g := gName 4) (tt := tYes) (tk := tVar 4) (tv := tC (.bl true)) rfl sc_nb.nd (pi_tup (pv 2)) (blkOk_by (own := [("own", 4)]) (N := N_nb) (sc := defScope st_nb) (by decide +kernel))
          (fun _ _ _ _ _ => pg_name (i := 4) sc_nb.nd rfl (Or.inl rfl)) (fun _ _ _ _ _ => pts_nil) (fun _ _ _ _ _ => pv 4) (fun _ _ _ _ _ => pe_bl)))
      (pss_one (ps_ret (pe_cal C hr (by rfl) (pa_cons (pe_lc (own := [("tie", 5)]) (g := gName 5) rfl sc_nb.nd (pi_tup (pe_ix (ixT K) (pv 0) pe_int (fun _ _ => rfl))) (blkOk_by (own := [("tie", 5)]) (N := N_nb) (sc := defScope st_nb) (by decide +kernel))
          (fun _ _ _ _ _ => pg_name (i := 5) sc_nb.nd rfl (Or.inl rfl))
          (fun _ _ _ _ _ => pts_one (pt_cmp (pc_din (hu_of hr) (pe_ix (ixT K) (pv 5) (pv 1) (fun _ _ => rfl)) (pv 3))))
          (fun _ _ _ _ _ => pe_ix (ixT K) (pv 5) (pe_op op_sub pe_int (pv 1)) (fun _ _ => rfl))) pa_nil)))), ?_⟩
    refine ⟨.ref b, rfl, b, rfl, ⟨_, hL⟩, fun D hD => known_dc (K := K) (i0 := 4) (σ := L2.start N_nb [.ref a, .int side, .ref b]) (show 4 < 6 from by decide) hL hD hl fun H1 s1 hk => ?_⟩
    have hT1 := same_seqT s1 hT
    have hTs1 := same_seqT s1 hTs
    refine ⟨.ref a, rfl, a, _, 2, .ref t, rfl, rfl, hT1, atI_nat (j := 2) rfl, t, rfl, ⟨_, hTs1⟩, fun D2 hD2 => lc_filt (walk_tup (xs := xs)) (fun i => wb.ties[i]?.bind fun t => if decide (sel side t ∈ lot) = true then some (selV (1 - side) t) else none) (by omega) hD2 (fun H' s => same_seqT s hTs1) ?_ ?_⟩
    · intro i x H2 H2' hi s2 hD1 hY R1 R0 g1 g0
      obtain ⟨rfl, hx⟩ := hY
      obtain ⟨d, hd1, hd2⟩ := ((hA.same s1).same s2).back hx
      rw [List.getElem?_map] at hd1
      have hi2 : i < wb.ties.length := by omega
      rw [List.getElem?_eq_getElem hi2] at hd1
      have e2 := Option.some.inj hd1
      subst e2
      obtain ⟨c, rfl, hc⟩ := dp_pair hd2
      obtain ⟨kvs, k1, k2, k3⟩ := hk.same s2
      rw [List.getElem?_eq_getElem hi2] at g1 g0
      refine ⟨rfl, .ref c, rfl, .int side, rfl, c, _, _, selV side wb.ties[i], rfl, rfl, hc, tie_at hs hc, .ref D, rfl, D, _, rfl, DGet.k (k := Sum.inl ((sel side wb.ties[i] : Nat) : Int)) k1, _, rfl, ?_⟩
      rw [k3]
      have e3 : decide (((sel side wb.ties[i] : Nat) : Int) ∈ iN lot) = decide (sel side wb.ties[i] ∈ lot) := decide_eq_decide.mpr mem_iN'
      rw [e3]
      refine ite2 (fun z => ?_) (fun z => ?_)
      · refine ⟨.ref c, rfl, .int side, rfl, 1, side, rfl, rfl, c, _, _, selV (1 - side) wb.ties[i], rfl, rfl, hc, ?_, g1 _ _ ?_ (Same.refl _)⟩
        · rw [other_side hs]
          exact tie_at (by omega) hc
        · show (if decide (sel side wb.ties[i] ∈ lot) = true then _ else _) = _
          rw [if_pos z]
      · refine g0 ?_ _ (Same.refl _)
        show (if decide (sel side wb.ties[i] ∈ lot) = true then _ else _) = _
        rw [if_neg z]
    · intro H2 s2 hD3
      rw [hxl, fm_if] at hD3
      have e4 : (wb.ties.filter fun t => decide (sel side t ∈ lot)).map (selV (1 - side)) = (iN ((tiesAt wb side lot).map fun t => sel (1 - side) t)).map V.int := by
        unfold iN tiesAt
        rw [List.map_map, List.map_map]
        rfl
      rw [e4] at hD3
      refine ⟨.ref D2, _, rfl, Dp.lstI (SqL.of hD3), ?_, fun p H3 ns s3 hp hn hm => ?_⟩
      · rw [iN_len, List.length_map]
        have := List.length_filter_le (fun t => decide (sel side t ∈ lot)) wb.ties
        show (wb.ties.filter _).length < 64
        omega
      · refine q p H3 ns ((s1.trans s2).trans s3) hp ?_
        have e5 : ns.length = (iN (nbs wb side lot)).length := nodup_len hn (iN_nodup (dd_nodup _)) fun x => by
          rw [hm x, mem_iN, mem_iN]
          exact ⟨fun ⟨y, h1, h2⟩ => ⟨y, (mem_dd _ _).mpr h1, h2⟩, fun ⟨y, h1, h2⟩ => ⟨y, (mem_dd _ _).mp h1, h2⟩⟩
        rw [e5, iN_len]
end
end Hk

set_option Elab.async false
set_option linter.all false
set_option maxRecDepth 100000
set_option maxHeartbeats 4000000
namespace Hk
open PySem PySem.Spec PySem.W PyProof.Rows L2 Hm
theorem nodup_putK {kvs : List (Key × V)} {k : Key} {v : V} (h : (kvs.map (·.1)).Nodup) : ((putK kvs k v).map (·.1)).Nodup := by
  unfold putK
  by_cases c : (kvs.any fun kv => decide (kv.1 = k)) = true
  · rw [if_pos c]
    have e : (kvs.map fun kv => if kv.1 = k then (kv.1, v) else kv).map (·.1) = kvs.map (·.1) := by
      rw [List.map_map]
      apply List.map_congr_left
      intro kv _
      show (if kv.1 = k then (kv.1, v) else kv).1 = kv.1
      split <;> rfl
    rw [e]
    exact h
  · rw [if_neg c, List.map_append]
    rw [List.nodup_append]
    refine ⟨h, by simp, fun a ha b hb => ?_⟩
    have eb : b = k := by simpa using hb
    subst eb
    rintro rfl
    obtain ⟨kv, h1, h2⟩ := List.mem_map.mp ha
    exact c (List.any_eq_true.mpr ⟨kv, h1, decide_eq_true h2⟩)
theorem mem_putK {kvs : List (Key × V)} {k : Key} {v : V} {p : Key × V} (h : p ∈ putK kvs k v) : p ∈ kvs ∨ p = (k, v) := by
  unfold putK at h
  by_cases c : (kvs.any fun kv => decide (kv.1 = k)) = true
  · rw [if_pos c] at h
    obtain ⟨kv, h1, h2⟩ := List.mem_map.mp h
    by_cases e : kv.1 = k
    · rw [if_pos e] at h2
      exact .inr (by rw [← h2, e])
    · rw [if_neg e] at h2
      exact .inl (by rw [← h2]; exact h1)
  · rw [if_neg c] at h
    rcases List.mem_append.mp h with h | h
    · exact .inl h
    · exact .inr (by simpa using h)
theorem keys_putK {kvs : List (Key × V)} {k : Key} {v : V} (j : Key) : j ∈ (putK kvs k v).map (·.1) ↔ j = k ∨ j ∈ kvs.map (·.1) := by
  have hv : ∀ (l : List (Key × V)) (j : Key), j ∈ l.map (·.1) ↔ (valV l j).isSome = true := by
    intro l j
    rw [← valV_any, List.any_eq_true]
    exact ⟨fun h => let ⟨kv, h1, h2⟩ := List.mem_map.mp h; ⟨kv, h1, decide_eq_true h2⟩, fun ⟨kv, h1, h2⟩ => List.mem_map.mpr ⟨kv, h1, of_decide_eq_true h2⟩⟩
  rw [hv, hv, valV_put]
  by_cases e : j = k
  · rw [if_pos e]
    simp [e]
  · rw [if_neg e]
    simp [e]
theorem valV_mem : ∀ {kvs : List (Key × V)} {k : Key} {v : V}, valV kvs k = some v → ∃ p ∈ kvs, p = (k, v)
  | [], _, _, h => by cases h
  | p :: r, k, v, h => by
    by_cases e : p.1 = k
    · rw [valV_pos e] at h
      exact ⟨p, List.mem_cons_self, by rw [← e, ← Option.some.inj h]⟩
    · rw [valV_neg e] at h
      obtain ⟨q, h1, h2⟩ := valV_mem h
      exact ⟨q, List.mem_cons_of_mem _ h1, h2⟩
/-- the values are lists of ints, not empty -/
def Lots (H0 H : Hp) (kvs : List (Key × V)) (b : Nat) : Prop := ∀ p ∈ kvs, ∃ a ns, p.2 = .ref a ∧ H a = some (.lst (ns.map V.int)) ∧ ns ≠ [] ∧ ns.length ≤ b ∧ H0 a = none
theorem lots_nss {H0 H : Hp} {b : Nat} : ∀ {kvs : List (Key × V)}, Lots H0 H kvs b → ∃ nss : List (List Int), Paired (fun (p : Key × V) (ns : List Int) => ∃ a, p.2 = .ref a ∧ H a = some (.lst (ns.map V.int)) ∧ ns ≠ []) kvs nss
  | [], _ => ⟨[], .nil⟩
  | p :: r, h => by
    obtain ⟨a, ns, h1, h2, h3, _⟩ := h p List.mem_cons_self
    obtain ⟨nss, h4⟩ := lots_nss (kvs := r) fun q hq => h q (List.mem_cons_of_mem _ hq)
    exact ⟨ns :: nss, .cons ⟨a, h1, h2, h3⟩ h4⟩
theorem paired_at {α β : Type} {F : α → β → Prop} : ∀ {xs : List α} {ys : List β} {i : Nat} {x : α}, Paired F xs ys → xs[i]? = some x → ∃ y, ys[i]? = some y ∧ F x y
  | _, _, i, _, .nil, h => by simp at h
  | _, _, 0, x, .cons h t, e => by
    simp only [List.getElem?_cons_zero] at e
    cases e
    exact ⟨_, rfl, h⟩
  | _, _, i + 1, x, .cons h t, e => by
    obtain ⟨y, h1, h2⟩ := paired_at (i := i) t (by simpa using e)
    exact ⟨y, by simpa using h1, h2⟩
theorem same_unlock {H HL H1 : Hp} {d : Addr} {u : HO} {od : Obj} (hd : H d = some u) (h : Same (upd H d (.frz od u)) H1) : Same H (upd H1 d u) := fun b o q => by
  by_cases e : b = d
  · subst e
    rw [upd_same]
    rw [hd] at q
    exact q
  · rw [upd_ne e]
    exact h b o (by rw [upd_ne e]; exact q)
section
variable {P : Program} {w : World} {K : PySem.W.Frag} {mg : Str → Option Value} {base : Heap}
/-! ### pieces_in -/
abbrev st_pc : Stmt := topS 22
abbrev N_pc : List Str := ["web", "side", "lot", "own", "known", "marks", "lots", "tie", "mark"]
theorem sc_pc : FnScope N_pc ["web", "side", "lot"] (defScope st_pc) := ⟨rfl, rfl, rfl, by decide +kernel, rfl, by decide +kernel, by decide +kernel⟩
def sp_pc (K : PySem.W.Frag) : Sp := fun vs H Q _ => ∃ (v lv : V) (wb : Web) (side : Nat) (lot : List Nat), vs = [v, .int side, lv] ∧ Dp K H v (encW wb) ∧ side ≤ 1 ∧ Dp K H lv (.tuple ((iN lot).map PyData.int)) ∧ (∀ t ∈ wb.ties, t.1 < wb.m ∧ t.2 < wb.n) ∧ Small wb ∧ (∀ x ∈ lot, x < wb.size side) ∧ lot.length ≤ 3 ∧
  ∀ (p : Addr) (H' : Hp) (us : List V), Same H H' → H' p = some (.lst us) → us.length = (pcs wb side lot).length → Q (.ref p) H'
theorem ok_pc (S : Src K mg "pieces_in" st_pc ["web", "side", "lot"]) (B : Blt mg) (C : Cal P w K mg base 2 "grown_from" ["marks", "many", "ties"] (sp_grown_from K)) : Cal P w K mg base 3 "pieces_in" ["web", "side", "lot"] (sp_pc K) := by
  refine S.cal sc_pc (fun vs H Q E h => ?_) (fun f cdv A outer s H vs Q E hr h => ?_)
  · obtain ⟨v, lv, wb, side, lot, rfl, _⟩ := h
    rfl
  · obtain ⟨v, lv, wb, side, lot, rfl, hd, hs, hlv, hbd, ⟨hm3, hn3, ht9⟩, hlt, hl, q⟩ := h
    obtain ⟨a, t, rfl, hT, hd3⟩ := dp_web hd
    obtain ⟨t', xs, et, hTs, hA⟩ := dp_ties hd3
    cases et
    obtain ⟨b, rfl, hL⟩ := hlv.tupI_inv
    have hxl : xs.length = wb.ties.length := by rw [hA.len, List.length_map]
    refine ⟨_, pss_cons (ps_set (i := 4) sc_pc.nd rfl (.inr rfl) (pe_dc (own := [("own", 3)]) (g := gName 3) (tt := tYes) (tk := tVar 3) (tv := tC (.bl true)) rfl sc_pc.nd (pi_tup (pv 2)) (blkOk_by (own := [("own", 3)]) (N := N_pc) (sc := defScope st_pc) (by decide +kernel))
          (fun _ _ _ _ _ => pg_name (i := 3) sc_pc.nd rfl (Or.inl rfl)) (fun _ _ _ _ _ => pts_nil) (fun _ _ _ _ _ => pv 3) (fun _ _ _ _ _ => pe_bl)))
      (pss_cons (ps_set (i := 5) sc_pc.nd rfl (.inl rfl) (pe_cal C hr (by rfl) (pa_cons (pe_listRg rfl (by rfl) B.list (prg_1 (by rfl) B.range (pe_op op_add (pe_ix (ixT K) (pv 0) pe_int (fun _ _ => rfl)) (pe_ix (ixT K) (pv 0) pe_int (fun _ _ => rfl)))))
          (pa_cons (pe_ix (ixT K) (pv 0) pe_int (fun _ _ => rfl))
          (pa_cons (pe_lc (own := [("tie", 7)]) (g := gName 7) rfl sc_pc.nd (pi_tup (pe_ix (ixT K) (pv 0) pe_int (fun _ _ => rfl))) (blkOk_by (own := [("tie", 7)]) (N := N_pc) (sc := defScope st_pc) (by decide +kernel))
            (fun _ _ _ _ _ => pg_name (i := 7) sc_pc.nd rfl (Or.inl rfl))
            (fun _ _ _ _ _ => pts_one (pt_cmp (pc_din (hu_of hr) (pe_ix (ixT K) (pv 7) (pv 1) (fun _ _ => rfl)) (pv 4))))
            (fun _ _ _ _ _ => pv 7)) pa_nil)))))
      (pss_cons (ps_set (i := 6) sc_pc.nd rfl (.inr rfl) pe_dnewK)
      (pss_cons (ps_for PassesOwn.never rfl (pi_tup (pv 2)) (pg_name (i := 3) sc_pc.nd rfl (.inl rfl))
          (pss_one (ps_expr (pe_bm PySem.F.plainAttrs_list PySem.F.slot_list_append PySem.F.type_list_append mt_append
            (pe_dsetd (pv 6) (pe_ix (ixL K) (pv 5) (pe_op op_add (pv 3) (pe_op op_mul (pv 1) (pe_ix (ixT K) (pv 0) pe_int (fun _ _ => rfl)))) (fun _ _ => rfl)) (pe_lst pa_nil) ⟨rfl, rfl, rfl, rfl⟩) (pa_cons (pv 3) pa_nil)))))
      (pss_one (ps_ret (pe_callB (cr_sortedD hr.units) (by rfl) B.sorted boot_sorted (pa_cons (pe_lock (pe_lc (own := [("mark", 8)]) (g := gName 8) (tt := tYes) rfl sc_pc.nd (pi_keys (pv 6)) (blkOk_by (own := [("mark", 8)]) (N := N_pc) (sc := defScope st_pc) (by decide +kernel))
            (fun _ _ _ _ _ => pg_name (i := 8) sc_pc.nd rfl (Or.inl rfl)) (fun _ _ _ _ _ => pts_nil)
            (fun _ _ _ _ _ => pe_callTy (tupOf K) (by rfl) B.tuple boot_tuple (pa_cons (pe_dget (hu_of hr) (pv 6) (pv 8) (fun _ _ => rfl)) pa_nil)))) pa_nil))))))), ?_⟩
    refine ⟨.ref b, rfl, b, rfl, ⟨_, hL⟩, fun D hD => known_dc (K := K) (i0 := 3) (σ := L2.start N_pc [.ref a, .int side, .ref b]) (show 3 < 9 from by decide) hL hD (by omega) fun H1 s1 hk => ?_⟩
    have hT1 := same_seqT s1 hT
    -- list(range(web[0] + web[1]))
    refine ⟨.ref a, rfl, a, _, 0, .int wb.m, rfl, rfl, hT1, atI_nat (j := 0) rfl, .ref a, rfl, a, _, 1, .int wb.n, rfl, rfl, hT1, atI_nat (j := 1) rfl, (wb.m : Int), (wb.n : Int), rfl, rfl, _, rfl, RgOk.of_le (by omega) (by omega) (by omega) (by omega), fun g hg => ?_⟩
    have e0 : (wb.m : Int) + (wb.n : Int) = ((wb.m + wb.n : Nat) : Int) := by omega
    rw [e0, rgV_iN]
    have s2 : Same H1 (upd H1 g (.lst ((iN (List.range (wb.m + wb.n))).map V.int))) := same_new hg _
    have hT2 := same_seqT s2 hT1
    have hTs2 := same_seqT s2 (same_seqT s1 hTs)
    refine ⟨.ref a, rfl, a, _, 0, .int wb.m, rfl, rfl, hT2, atI_nat (j := 0) rfl, ?_⟩
    -- [tie for tie in web[2] if tie[side] in known]
    refine ⟨.ref a, rfl, a, _, 2, .ref t, rfl, rfl, hT2, atI_nat (j := 2) rfl, t, rfl, ⟨_, hTs2⟩, fun D2 hD2 => lc_filt (walk_tup (xs := xs)) (fun i => (xs.zip wb.ties)[i]?.bind fun z => if decide (sel side z.2 ∈ lot) = true then some z.1 else none) (by omega) hD2 (fun H' s => same_seqT s hTs2) ?_ ?_⟩
    · intro i x H2 H2' hi s3 hD1 hY R1 R0 g1 g0
      obtain ⟨rfl, hx⟩ := hY
      obtain ⟨d, hd1, hd2⟩ := (((hA.same s1).same s2).same s3).back hx
      rw [List.getElem?_map] at hd1
      have hi2 : i < wb.ties.length := by omega
      rw [List.getElem?_eq_getElem hi2] at hd1
      have e2 := Option.some.inj hd1
      subst e2
      obtain ⟨c, rfl, hc⟩ := dp_pair hd2
      obtain ⟨kvs, k1, k2, k3⟩ := (hk.same s2).same s3
      have ez : (xs.zip wb.ties)[i]? = some (.ref c, wb.ties[i]) := by
        rw [List.getElem?_zip_eq_some]
        exact ⟨hx, List.getElem?_eq_getElem hi2⟩
      rw [ez] at g1 g0
      refine ⟨rfl, .ref c, rfl, .int side, rfl, c, _, _, selV side wb.ties[i], rfl, rfl, hc, tie_at hs hc, .ref D, rfl, D, _, rfl, DGet.k (k := Sum.inl ((sel side wb.ties[i] : Nat) : Int)) k1, _, rfl, ?_⟩
      rw [k3]
      have e3 : decide (((sel side wb.ties[i] : Nat) : Int) ∈ iN lot) = decide (sel side wb.ties[i] ∈ lot) := decide_eq_decide.mpr mem_iN'
      rw [e3]
      refine ite2 (fun z => ?_) (fun z => ?_)
      · refine ⟨.ref c, rfl, g1 _ _ ?_ (Same.refl _)⟩
        show (if decide (sel side wb.ties[i] ∈ lot) = true then _ else _) = _
        rw [if_pos z]
      · refine g0 ?_ _ (Same.refl _)
        show (if decide (sel side wb.ties[i] ∈ lot) = true then _ else _) = _
        rw [if_neg z]
    · intro H2 s3 hD3
      have hzl : (xs.zip wb.ties).length = xs.length := by rw [List.length_zip, hxl, Nat.min_self]
      rw [← hzl, fm_if] at hD3
      have hA3 := ((hA.same s1).same s2).same s3
      have hsub : DpAll K H2 (((xs.zip wb.ties).filter fun z => decide (sel side z.2 ∈ lot)).map (·.1)) ((tiesAt wb side lot).map encP) := by
        unfold tiesAt
        have : ∀ (xs : List V) (ts : List (Nat × Nat)), DpAll K H2 xs (ts.map encP) → DpAll K H2 (((xs.zip ts).filter fun z => decide (sel side z.2 ∈ lot)).map (·.1)) ((ts.filter fun t => decide (sel side t ∈ lot)).map encP) := by
          intro xs ts
          induction ts generalizing xs with
          | nil => intro h; cases h; exact .nil
          | cons t ts ih =>
            intro h
            cases h with
            | cons h1 h2 =>
              rw [List.zip_cons_cons, List.filter_cons, List.filter_cons]
              by_cases z : decide (sel side t ∈ lot) = true
              · rw [if_pos z, if_pos z]
                exact .cons h1 (ih _ h2)
              · rw [if_neg z, if_neg z]
                exact ih _ h2
        exact this xs wb.ties hA3
      have hlm : (List.range (wb.m + wb.n)).length = wb.m + wb.n := List.length_range
      refine ⟨.ref g, .ref D2, List.range (wb.m + wb.n), wb.m, tiesAt wb side lot, _, rfl, Same.refl _, Dp.lstI ((s3.seq sq_new)), .inr (.lst (SqL.of hD3) hsub), fun t ht => ?_, by rw [hlm]; omega, fun v' G' H3 hE hd' => ?_⟩
      · have hb2 := hbd t (List.mem_filter.mp ht).1
        rw [hlm]
        exact ⟨by omega, by omega⟩
      · -- marks
        have hd4 := hd'.same hE.gh
        have s03 : Same H H3 := ((s1.trans s2).trans s3).trans hE.hh
        obtain ⟨mk, rfl, hM⟩ := hd4.lstI_inv
        -- lots = {}
        intro d hd0
        have hmkl : (grown (List.range (wb.m + wb.n)) wb.m (tiesAt wb side lot)).length = wb.m + wb.n := by rw [grown_len, hlm]
        have hL3 := same_seqT s03 hL
        have hT3 := same_seqT s03 hT
        have hll : ((iN lot).map V.int).length = lot.length := by rw [List.length_map, iN_len]
        let mkOf : Nat → Nat := fun own => (grown (List.range (wb.m + wb.n)) wb.m (tiesAt wb side lot)).getD (own + side * wb.m) 0
        have s4 : Same H3 (upd H3 d (.dK [])) := same_new hd0 _
        refine ⟨.ref b, rfl, b, rfl, ⟨_, same_seqT s4 hL3⟩, for_it (walk_tup (xs := (iN lot).map V.int)) (fun i σ H4 => ∃ kvs y, σ = [some (.ref a), some (.int side), some (.ref b), y, some (.ref D), some (.ref mk), some (.ref d), none, none] ∧ Same H3 H4 ∧ H4 d = some (.dK kvs) ∧ kvs.length ≤ i ∧ (kvs.map (·.1)).Nodup ∧ (∀ k, k ∈ kvs.map (·.1) ↔ ∃ n ∈ lot.take i, k = Sum.inl ((mkOf n : Nat) : Int)) ∧ Lots H3 H4 kvs i)
          ⟨[], none, rfl, s4, upd_same, Nat.zero_le _, List.nodup_nil, fun k => by simp, fun p hp => by cases hp⟩ (fun i σ H4 _ p => ?_) (fun i x σ H4 H4' hi p hY => ?_) (fun σ H4 p => ?_)⟩
        · obtain ⟨_, _, _, s5, _⟩ := p
          exact same_seqT s5 hL3
        · obtain ⟨kvs, y, rfl, s5, hdk, hkl, hnd, hkeys, hlots⟩ := p
          obtain ⟨rfl, hx⟩ := hY
          obtain ⟨n, hn, rfl⟩ := iN_at hx
          have hnm : n ∈ lot := List.mem_of_getElem? hn
          have hnb : n + side * wb.m < wb.m + wb.n := by
            have h1 := hlt n hnm
            have : side = 0 ∨ side = 1 := by omega
            rcases this with e | e
            · subst e
              have h2 : n < wb.m := h1
              omega
            · subst e
              have h2 : n < wb.n := h1
              omega
          have hil : i < lot.length := by omega
          have step : ∀ (kvs' : List (Key × V)), (∀ k, k ∈ kvs'.map (·.1) ↔ k = Sum.inl ((mkOf n : Nat) : Int) ∨ k ∈ kvs.map (·.1)) → ∀ k, k ∈ kvs'.map (·.1) ↔ ∃ n ∈ lot.take (i + 1), k = Sum.inl ((mkOf n : Nat) : Int) := by
            intro kvs' hk' k
            rw [hk' k, hkeys k, List.take_add_one, hn]
            constructor
            · rintro (e | ⟨n', h1, h2⟩)
              · exact ⟨n, by simp, e⟩
              · exact ⟨n', by simp [h1], h2⟩
            · rintro ⟨n', h1, h2⟩
              rcases List.mem_append.mp h1 with h1 | h1
              · exact .inr ⟨n', h1, h2⟩
              · have e : n' = n := by simpa using h1
                exact .inl (by rw [← e]; exact h2)
          -- lots.setdefault(marks[..], [])
          refine ⟨.ref d, rfl, d, rfl, .inl ⟨kvs, .inl hdk⟩, .ref mk, rfl, .int (n : Int), rfl, .int side, rfl, .ref a, rfl, a, _, 0, .int wb.m, rfl, rfl, same_seqT s5 hT3, atI_nat (j := 0) rfl, (side : Int), (wb.m : Int), rfl, rfl, .inl ⟨by omega, by omega⟩, (n : Int), _, rfl, rfl, mk, _, _, .int ((mkOf n : Nat) : Int), rfl, rfl, s5.seq hM, ?_, Nat.zero_le _, fun z hz => ?_⟩
          · exact at_of (j := n + side * wb.m) (by
              have : side = 0 ∨ side = 1 := by omega
              rcases this with e | e
              · subst e; simp
              · subst e; simp) (at_iN (by rw [hmkl]; exact hnb))
          · have nzd : d ≠ z := ne_of_none hdk hz
            have hdk2 : (upd H4' z (.lst [])) d = some (.dK kvs) := by rw [upd_ne nzd]; exact hdk
            have s6 : Same H3 (upd H4' z (.lst [])) := s5.trans (same_new hz _)
            refine ⟨kvs, Sum.inl ((mkOf n : Nat) : Int), hdk2, rfl, small1000 (by omega), fun v hv => ?_, fun hv => ?_⟩
            · -- there
              obtain ⟨p, hp, ep⟩ := valV_mem hv
              obtain ⟨l, ns, e1, e2, e3, e4, e5⟩ := hlots p hp
              have ev : v = .ref l := by rw [ep] at e1; exact e1
              subst ev
              have nlz : l ≠ z := ne_of_none e2 hz
              have e2' : (upd H4' z (.lst [])) l = some (.lst (ns.map V.int)) := by rw [upd_ne nlz]; exact e2
              have ndl : d ≠ l := ne_of hdk e2 (fun z => nomatch z)
              refine ⟨.inl ⟨rfl, _, SqL.of e2'⟩, .int (n : Int), rfl, l, _, _, rfl, rfl, e2', by rw [List.length_map]; exact small1000 (by omega), ?_⟩
              refine ⟨kvs, some (.int (n : Int)), rfl, same_mut s6 e5, by rw [upd_ne ndl]; exact hdk2, by omega, hnd, step kvs fun k => ⟨fun h => .inr h, fun h => h.elim (fun e => by
                rw [e]
                exact List.mem_map.mpr ⟨p, hp, by rw [ep]⟩) id⟩, fun p' hp' => ?_⟩
              obtain ⟨l', ns', f1, f2, f3, f4, f5⟩ := hlots p' hp'
              by_cases ell : l' = l
              · subst ell
                rw [f2] at e2
                have en : ns'.map V.int = ns.map V.int := by injection (Option.some.inj e2)
                refine ⟨l', ns ++ [(n : Int)], f1, by rw [upd_same, List.map_append]; rfl, by simp, by rw [List.length_append, List.length_singleton]; omega, f5⟩
              · exact ⟨l', ns', f1, by rw [upd_ne ell, upd_ne (ne_of_none f2 hz)]; exact f2, f3, by omega, f5⟩
            · -- new
              have hz2 : (upd (upd H4' z (.lst [])) d (.dK (putK kvs (Sum.inl ((mkOf n : Nat) : Int)) (.ref z)))) z = some (.lst ([] : List V)) := by rw [upd_ne nzd.symm, upd_same]
              refine ⟨.inl ⟨rfl, _, SqL.of hz2⟩, .int (n : Int), rfl, z, _, _, rfl, rfl, hz2, by show 0 < sizeLine; decide, ?_⟩
              refine ⟨_, some (.int (n : Int)), rfl, same_mut (same_mut s6 hd0) (s5.free hz), by rw [upd_ne nzd, upd_same], ?_, nodup_putK hnd, step _ fun k => keys_putK k, fun p' hp' => ?_⟩
              · have := length_putK kvs (Sum.inl ((mkOf n : Nat) : Int)) (.ref z)
                omega
              · rcases mem_putK hp' with hp' | hp'
                · obtain ⟨l', ns', f1, f2, f3, f4, f5⟩ := hlots p' hp'
                  have nlz : l' ≠ z := ne_of_none f2 hz
                  exact ⟨l', ns', f1, by rw [upd_ne nlz, upd_ne (ne_of f2 hdk (fun z => nomatch z)), upd_ne nlz]; exact f2, f3, by omega, f5⟩
                · rw [hp']
                  exact ⟨z, [(n : Int)], rfl, by rw [upd_same]; rfl, by simp, by simp, s5.free hz⟩
        · -- sorted([tuple(lots[mark]) for mark in lots])
          obtain ⟨kvs, y, rfl, s5, hdk, hkl, hnd, hkeys, hlots⟩ := p
          rw [hll] at hkl hkeys
          obtain ⟨nss, hp⟩ := lots_nss hlots
          have hnl : kvs.length = nss.length := Paired.length hp
          refine ⟨d, _, hdk, trivial, fun od => ?_⟩
          have hdL : (upd H4 d (.frz od (.dK kvs))) d = some (.frz od (.dK kvs)) := upd_same
          refine ⟨.ref d, rfl, d, od, rfl, .inl ⟨kvs, hdL, fun D3 hD3 => lc_data (K := K) (G := fun _ => none) walk_keys (nss.map tupD) (by rw [List.length_map]; exact hnl) (by omega) (fun b o q => nomatch q) hD3 (fun H' s => s _ _ hdL) ?_ ?_⟩⟩
          · intro i x G1 H5 H5' e hi he hE hD1 gD hY R hR
            obtain ⟨rfl, k, v, hkv, rfl⟩ := hY
            obtain ⟨ns, hns, l, e1, e2, e3⟩ := paired_at hp hkv
            rw [List.getElem?_map, hns] at he
            have ee : tupD ns = e := Option.some.inj he
            subst ee
            have ev : v = .ref l := e1
            subst ev
            have ndl : l ≠ d := ne_of e2 hdk (fun z => nomatch z)
            have e2' : H5' l = some (.lst (ns.map V.int)) := hE.hh _ _ (by rw [upd_ne ndl]; exact e2)
            have hv : valV kvs k = some (.ref l) := val_nodup hnd (k, .ref l) (List.mem_of_getElem? hkv)
            refine ⟨rfl, .ref d, rfl, kV k, rfl, d, .ref l, rfl, .inl ⟨kvs, k, .inr ⟨od, hE.hh _ _ hdL⟩, rfl, hv.symm⟩, l, _, rfl, .inl ⟨SqL.of e2', fun m hm => hR _ _ _ ((Ext.rfl' hE.gh).new hm) (Dp.tupI st_new)⟩⟩
          · intro G1 H5 us hE gD hA1 hus
            refine ⟨hE.hh _ _ hdL, ?_⟩
            have gd : G1 d = none := hE.fr d (some_ne hdL)
            have sG : Same G1 (upd H5 d (.dK kvs)) := same_mut hE.gh gd
            have nDd : D3 ≠ d := fun e => by rw [e, hdL] at hD3; cases hD3
            have hus2 : (upd H5 d (.dK kvs)) D3 = some (.lst us) := by rw [upd_ne nDd]; exact hus
            have hul : us.length = nss.length := by rw [hA1.len, List.length_map]
            refine ⟨D3, us, nss.map tupD, rfl, SqL.of hus2, hA1.same sG, ?_, .inl ?_, ?_, fun bs p hbp _ hpn => ?_⟩
            · intro d1 h1 d2 h2
              obtain ⟨k1, _, rfl⟩ := List.mem_map.mp h1
              obtain ⟨k2, _, rfl⟩ := List.mem_map.mp h2
              exact alike_ints k1 k2
            · intro d1 h1
              obtain ⟨k1, hk1, rfl⟩ := List.mem_map.mp h1
              have hne : k1 ≠ [] := by
                have hall : ∀ {kvs : List (Key × V)} {nss : List (List Int)}, Paired (fun (p : Key × V) (ns : List Int) => ∃ a, p.2 = .ref a ∧ H4 a = some (.lst (ns.map V.int)) ∧ ns ≠ []) kvs nss → ∀ n ∈ nss, n ≠ [] := by
                  intro kvs nss h
                  induction h with
                  | nil => intro n hn; cases hn
                  | cons h t ih =>
                    intro n hn
                    rcases List.mem_cons.mp hn with e | hn
                    · rw [e]; obtain ⟨_, _, _, h3⟩ := h; exact h3
                    · exact ih n hn
                exact hall hp k1 hk1
              cases k1 with
              | nil => exact absurd rfl hne
              | cons i k => exact ⟨_, _, rfl⟩
            · intro d1 h1
              obtain ⟨k1, _, rfl⟩ := List.mem_map.mp h1
              exact depth_tupI k1
            · have s7 : Same H4 (upd H5 d (.dK kvs)) := same_unlock (HL := H4) hdk hE.hh
              refine q p _ (bs.map Prod.fst) (((s03.trans s5).trans s7).trans (same_new hpn _)) upd_same ?_
              rw [List.length_map, hbp.length_eq, List.length_zip, List.length_map, hul, Nat.min_self, ← hnl]
              have e9 : kvs.length = ((dd (lot.map mkOf)).map fun n => (Sum.inl ((n : Nat) : Int) : Key)).length := by
                rw [← List.length_map (f := fun p : Key × V => p.1) (as := kvs)]
                refine nodup_len hnd ?_ fun k => ?_
                · have hdn := dd_nodup (lot.map mkOf)
                  generalize dd (lot.map mkOf) = l at hdn
                  induction l with
                  | nil => exact List.nodup_nil
                  | cons x r ih =>
                    obtain ⟨h1, h2⟩ := List.nodup_cons.mp hdn
                    rw [List.map_cons, List.nodup_cons]
                    refine ⟨fun z => ?_, ih h2⟩
                    obtain ⟨y, hy, e⟩ := List.mem_map.mp z
                    have e' : y = x := Int.ofNat.inj (Sum.inl.inj e)
                    exact h1 (e' ▸ hy)
                · rw [hkeys k, List.take_length, List.mem_map]
                  constructor
                  · rintro ⟨n, h1, h2⟩
                    exact ⟨mkOf n, (mem_dd _ _).mpr (List.mem_map.mpr ⟨n, h1, rfl⟩), h2.symm⟩
                  · rintro ⟨m, h1, h2⟩
                    obtain ⟨n, h3, h4⟩ := List.mem_map.mp ((mem_dd _ _).mp h1)
                    exact ⟨n, h3, by rw [← h2, ← h4]⟩
              rw [e9, List.length_map]
              rfl
end
end Hk

set_option Elab.async false
set_option linter.all false
set_option maxRecDepth 100000
set_option maxHeartbeats 4000000
namespace Hk
open PySem PySem.Spec PyProof.Rows L2 Hm
section
variable {X : Cx} {a : Expr} {ta : TE}
def tTru (K : PySem.W.Frag) (ta : TE) : TT := fun σ H Q => ta σ H fun x H' => ∃ k, TruV K x H' k ∧ Q k H'
theorem pt_tru (K : PySem.W.Frag) (ha : PE X a ta) (he : ∀ whole, isTrue a X.env whole = (do let v ← whole; standAt a.pos; holding [v] (truthy v))) (h : X.K = K := by rfl) :
    PT X a (tTru K ta) := h ▸ pt_truth ha he
end
theorem bit_test : ∀ b < 8, ∀ p < 3, (Builtin.bitAnd ((b : Nat) / 2 ^ ((p : Nat) : Int).toNat : Int) 1 != 0) = (b / 2 ^ p % 2 == 1) := by decide +kernel
theorem bit_or : ∀ b < 8, ∀ p < 3, Builtin.bitOr ((b : Nat) : Int) ((1 : Int) * 2 ^ ((p : Nat) : Int).toNat) = ((b ||| 2 ^ p : Nat) : Int) := by decide +kernel
theorem bit_xor : ∀ a < 8, ∀ b < 8, Builtin.bitXor ((a : Nat) : Int) ((b : Nat) : Int) = ((a ^^^ b : Nat) : Int) := by decide +kernel
theorem or_lt : ∀ k < 4, ∀ p < k, ∀ b < 2 ^ p, (b ||| 2 ^ p) < 2 ^ k := by decide +kernel
theorem xor_lt : ∀ k < 4, ∀ b < 2 ^ k, ((2 ^ k - 1) ^^^ b) < 2 ^ k := by decide +kernel
theorem fm_range_if (n : Nat) (p : Nat → Bool) : (List.range n).filterMap (fun i => if p i = true then some (V.int (i : Int)) else none) = (iN ((List.range n).filter p)).map V.int := by
  unfold iN
  rw [List.map_map]
  induction (List.range n) with
  | nil => rfl
  | cons x r ih =>
    rw [List.filterMap_cons, List.filter_cons]
    by_cases h : p x = true
    · rw [if_pos h, if_pos h, List.map_cons, ih]
      rfl
    · rw [if_neg h, if_neg h, ih]
theorem web_at {H : Hp} {K : PySem.W.Frag} {a t : Addr} {wb : Web} {s : Nat} (hs : s ≤ 1) : atI [V.int (wb.m : Int), V.int (wb.n : Int), V.ref t] ((s : Nat) : Int) = some (.int ((wb.size s : Nat) : Int)) := by
  have : s = 0 ∨ s = 1 := by omega
  rcases this with rfl | rfl
  · exact atI_nat (j := 0) rfl
  · exact atI_nat (j := 1) rfl
theorem size_le {wb : Web} (h : Small wb) {s : Nat} : wb.size s ≤ 3 := by
  unfold Web.size
  split
  · exact h.1
  · exact h.2.1
theorem lotOf_lt {k b x : Nat} (h : x ∈ lotOf k b) : x < k := by
  unfold lotOf at h
  exact List.mem_range.mp (List.mem_filter.mp h).1
theorem lotOf_len (k b : Nat) : (lotOf k b).length ≤ k := by
  unfold lotOf
  have := List.length_filter_le (fun p => b / 2 ^ p % 2 == 1) (List.range k)
  rw [List.length_range] at this
  exact this
section
variable {P : Program} {w : World} {K : PySem.W.Frag} {mg : Str → Option Value} {base : Heap}
/-! ### rank_in -/
abbrev st_rank : Stmt := topS 23
theorem sc_rank : FnScope ["web", "side", "lot"] ["web", "side", "lot"] (defScope st_rank) := ⟨rfl, rfl, rfl, by decide +kernel, rfl, by decide +kernel, by decide +kernel⟩
def sp_rank (K : PySem.W.Frag) : Sp := fun vs H Q _ => ∃ (v lv : V) (wb : Web) (side : Nat) (lot : List Nat), vs = [v, .int side, lv] ∧ Dp K H v (encW wb) ∧ side ≤ 1 ∧ Dp K H lv (.tuple ((iN lot).map PyData.int)) ∧ (∀ t ∈ wb.ties, t.1 < wb.m ∧ t.2 < wb.n) ∧ Small wb ∧ (∀ x ∈ lot, x < wb.size side) ∧ lot.length ≤ 3 ∧
  ∀ (H' : Hp), Same H H' → Q (.int (rank wb side lot)) H'
theorem ok_rank (S : Src K mg "rank_in" st_rank ["web", "side", "lot"]) (B : Blt mg) (C1 : Cal P w K mg base 2 "neighbours_in" ["web", "side", "lot"] (sp_nb K)) (C2 : Cal P w K mg base 3 "pieces_in" ["web", "side", "lot"] (sp_pc K)) : Cal P w K mg base 4 "rank_in" ["web", "side", "lot"] (sp_rank K) := by
  refine S.cal sc_rank (fun vs H Q E h => ?_) (fun f cdv A outer s H vs Q E hr h => ?_)
  · obtain ⟨v, lv, wb, side, lot, rfl, _⟩ := h
    rfl
  · obtain ⟨v, lv, wb, side, lot, rfl, hd, hs, hlv, hbd, hsm, hlt, hl, q⟩ := h
    refine ⟨_, pss_one (ps_ret (pe_op op_sub (pe_len B (pe_cal C1 (hr.mono (by decide)) (by rfl) (pa_cons (pv 0) (pa_cons (pv 1) (pa_cons (pv 2) pa_nil))))) (pe_len B (pe_cal C2 hr (by rfl) (pa_cons (pv 0) (pa_cons (pv 1) (pa_cons (pv 2) pa_nil))))))), ?_⟩
    refine ⟨v, rfl, .int side, rfl, lv, rfl, v, lv, wb, side, lot, rfl, hd, hs, hlv, by omega, hsm.2.2, fun p H1 ns s1 hp hn => ?_⟩
    refine ⟨p, _, rfl, .inr (.inl (.inl hp)), ?_⟩
    refine ⟨v, rfl, .int side, rfl, lv, rfl, v, lv, wb, side, lot, rfl, hd.same s1, hs, hlv.same s1, hbd, hsm, hlt, hl, fun p2 H2 us s2 hp2 hu => ?_⟩
    refine ⟨p2, _, rfl, .inl (SqL.of hp2), _, _, rfl, rfl, ?_⟩
    rw [List.length_map, hn, hu]
    exact q H2 (s1.trans s2)
/-! ### ranks_by -/
abbrev st_ranks : Stmt := topS 26
abbrev N_ranks : List Str := ["web", "side", "found", "bits", "place"]
theorem sc_ranks : FnScope N_ranks ["web", "side"] (defScope st_ranks) := ⟨rfl, rfl, rfl, by decide +kernel, rfl, by decide +kernel, by decide +kernel⟩
def sp_ranks (K : PySem.W.Frag) : Sp := fun vs H Q _ => ∃ (v : V) (wb : Web) (side : Nat), vs = [v, .int side] ∧ Dp K H v (encW wb) ∧ side ≤ 1 ∧ (∀ t ∈ wb.ties, t.1 < wb.m ∧ t.2 < wb.n) ∧ Small wb ∧
  ∀ (p : Addr) (H' : Hp), Same H H' → H p = none → H' p = some (.lst ((ranksBy wb side).map V.int)) → Q (.ref p) H'
theorem ok_ranks (S : Src K mg "ranks_by" st_ranks ["web", "side"]) (B : Blt mg) (C : Cal P w K mg base 4 "rank_in" ["web", "side", "lot"] (sp_rank K)) : Cal P w K mg base 5 "ranks_by" ["web", "side"] (sp_ranks K) := by
  refine S.cal sc_ranks (fun vs H Q E h => ?_) (fun f cdv A outer s H vs Q E hr h => ?_)
  · obtain ⟨v, wb, side, rfl, _⟩ := h
    rfl
  · obtain ⟨v, wb, side, rfl, hd, hs, hbd, hsm, q⟩ := h
    obtain ⟨a, t, rfl, hT, hd3⟩ := dp_web hd
    have hk3 : wb.size side ≤ 3 := size_le hsm
    refine ⟨_, pss_cons (ps_set (i := 2) sc_ranks.nd rfl (.inl rfl) (pe_lst (pa_cons pe_int pa_nil)))
      (pss_cons (ps_for PassesOwn.never rfl (pi_range2 (by rfl) B.range (pa_cons pe_int (pa_cons (pe_op op_shl pe_int (pe_ix (ixT K) (pv 0) (pv 1) (fun _ _ => rfl))) pa_nil))) (pg_name (i := 3) sc_ranks.nd rfl (.inr rfl))
        (pss_one (ps_expr (pe_bm PySem.F.plainAttrs_list PySem.F.slot_list_append PySem.F.type_list_append mt_append (pv 2)
          (pa_cons (pe_cal C hr (by rfl) (pa_cons (pv 0) (pa_cons (pv 1) (pa_cons (pe_callTy call_tuple_of (by rfl) B.tuple boot_tuple (pa_cons
            (pe_lc (own := [("place", 4)]) (g := gName 4) rfl sc_ranks.nd (pi_range1 (by rfl) B.range (pa_cons (pe_ix (ixT K) (pv 0) (pv 1) (fun _ _ => rfl)) pa_nil)) (blkOk_by (own := [("place", 4)]) (N := N_ranks) (sc := defScope st_ranks) (by decide +kernel))
              (fun _ _ _ _ _ => pg_name (i := 4) sc_ranks.nd rfl (Or.inl rfl))
              (fun _ _ _ _ _ => pts_one (pt_tru K (pe_op op_and (pe_op op_shr (pv 3) (pv 4)) pe_int) (by intro _; rfl)))
              (fun _ _ _ _ _ => pv 4)) pa_nil)) pa_nil)))) pa_nil)))))
      (pss_one (ps_ret (pv 2)))), ?_⟩
    refine ⟨by show 1 ≤ sizeLine; decide, fun l hl => ?_⟩
    have s0 : Same H (upd H l (.lst [.int 0])) := same_new hl _
    have e2 : ((1 : Int) * 2 ^ ((wb.size side : Nat) : Int).toNat) = ((2 ^ wb.size side : Nat) : Int) := by
      rw [Int.one_mul, Int.toNat_natCast]
      norm_cast
    have hp8 : 2 ^ wb.size side ≤ 8 := Nat.pow_le_pow_right (by decide) hk3
    have hp1 : 1 ≤ 2 ^ wb.size side := Nat.one_le_two_pow
    refine ⟨.ref a, rfl, .int side, rfl, a, _, _, .int ((wb.size side : Nat) : Int), rfl, rfl, same_seqT s0 hT, web_at (H := H) (K := K) (a := a) hs, 1, _, rfl, rfl, ⟨by omega, by omega, by decide⟩, ?_⟩
    refine ⟨1, ((2 ^ wb.size side : Nat) : Int), by show [V.int 1, V.int (1 * 2 ^ ((wb.size side : Nat) : Int).toNat)] = _; rw [e2], ⟨by omega, by omega, by omega, by omega⟩, ?_⟩
    have e3 : (((2 ^ wb.size side : Nat) : Int) - 1).toNat = 2 ^ wb.size side - 1 := by omega
    rw [e3]
    refine for_it walk_range (fun i σ H1 => ∃ y, σ = [some (.ref a), some (.int side), some (.ref l), y, none] ∧ Same H H1 ∧ H1 l = some (.lst (((0 : Int) :: (List.range' 1 i).map fun bits => rank wb side (lotOf (wb.size side) bits)).map V.int)))
      ⟨none, rfl, s0, upd_same⟩ (fun _ _ _ _ _ => trivial) (fun i x σ H1 H1' hi p hY => ?_) (fun σ H1 p => ?_)
    · obtain ⟨y, rfl, s1, hf⟩ := p
      obtain ⟨rfl, rfl⟩ := hY
      have hT1 := same_seqT s1 hT
      have eb : (1 : Int) + (i : Int) = ((1 + i : Nat) : Int) := by omega
      show gName 3 (V.int (1 + (i : Int))) _ _ _
      rw [eb]
      refine ⟨.ref l, rfl, .inl ⟨rfl, _, SqL.of hf⟩, .ref a, rfl, .int side, rfl, .ref a, rfl, .int side, rfl, a, _, _, .int ((wb.size side : Nat) : Int), rfl, rfl, hT1, web_at (H := H) (K := K) (a := a) hs, ?_⟩
      refine ⟨_, rfl, by omega, by omega, fun D hD => lc_filt walk_range (fun j => if (1 + i) / 2 ^ j % 2 == 1 then some (.int (j : Int)) else none) ?_ hD (fun _ _ => trivial) ?_ ?_⟩
      · show (((wb.size side : Nat) : Int) - 0).toNat ≤ 10000
        omega
      · intro j x H2 H2' hj s2 hD1 hY R1 R0 g1 g0
        obtain ⟨rfl, rfl⟩ := hY
        rw [Int.toNat_natCast] at hj
        have e0 : (0 : Int) + (j : Int) = (j : Int) := Int.zero_add _
        show gName 4 (V.int ((0 : Int) + (j : Int))) _ _ _
        rw [e0]
        refine ⟨rfl, _, rfl, _, rfl, _, _, rfl, rfl, by omega, _, _, rfl, rfl, _, rfl, ?_⟩
        rw [bit_test (1 + i) (by omega) j (by omega)]
        refine ite2 (fun z => ?_) (fun z => ?_)
        · exact ⟨_, rfl, g1 _ _ (if_pos z) (Same.refl _)⟩
        · exact g0 (if_neg z) _ (Same.refl _)
      · intro H2 s2 hD2
        rw [Int.toNat_natCast, fm_range_if] at hD2
        have hD2' : H2 D = some (.lst ((iN (lotOf (wb.size side) (1 + i))).map V.int)) := hD2
        refine ⟨D, _, rfl, .inl ⟨SqL.of hD2', fun u hu => ?_⟩⟩
        have s3 := s2.trans (same_new hu (.tup ((iN (lotOf (wb.size side) (1 + i))).map V.int)))
        refine ⟨.ref a, .ref u, wb, side, lotOf (wb.size side) (1 + i), rfl, (hd.same s1).same s3, hs, Dp.tupI st_new, hbd, hsm, fun x hx => lotOf_lt hx, Nat.le_trans (lotOf_len _ _) hk3, fun H3 s4 => ?_⟩
        have hf3 := s4 _ _ (s3 _ _ hf)
        refine ⟨l, _, _, rfl, rfl, hf3, ?_, some (.int ((1 + i : Nat) : Int)), rfl, same_mut ((s1.trans s3).trans s4) hl, ?_⟩
        · rw [List.length_map, List.length_cons, List.length_map, List.length_range']
          exact small1000 (by omega)
        · rw [upd_same, List.range'_concat, List.map_append]
          have e5 : 1 + 1 * i = 1 + i := by omega
          rw [e5]
          rw [← List.cons_append, List.map_append]
          rfl
    · obtain ⟨y, rfl, s1, hf⟩ := p
      exact ⟨.ref l, rfl, q l H1 s1 hl hf⟩
end
end Hk

set_option Elab.async false
set_option linter.all false
set_option maxRecDepth 100000
set_option maxHeartbeats 4000000
namespace Hk
open PySem PySem.Spec PyProof.Rows L2 Hm
section
variable {X : Cx}
def gTupK (K : PySem.W.Frag) (n : Nat) (t : TGs) : TG := gTup K n t
theorem pgT (K : PySem.W.Frag) {es : List Expr} {k : Nat} {t : TGs} {n : Nat} {pos : Pos} (hc : X.calm = true) (h : PGs X es t)
    (hn : (assignEach es X.env).length = n := by rfl) (hst : (assignEach es X.env).findIdx? (·.1) = none := by rfl) (hK : X.K = K := by rfl) : PG X (.Tuple es k pos) (gTupK K n t) := hK ▸ pg_tup hc h hn hst
end
theorem fin8 {P : Nat → Prop} {p : Nat} (hp : p < 3) {i : Nat} (hi : i < 2 ^ p) (h : ∀ p < 3, ∀ i < 2 ^ p, P i) : P i := h p hp i hi
theorem or_int : ∀ p < 3, ∀ b < 2 ^ p, Builtin.bitOr ((b : Nat) : Int) (((2 ^ p : Nat) : Nat) : Int) = ((b ||| 2 ^ p : Nat) : Int) := by decide +kernel
theorem least_aux (l : List Int) : ∀ x : Int, (l.foldl (fun a b => if b < a then b else a) x ∈ x :: l) ∧ ∀ y ∈ x :: l, l.foldl (fun a b => if b < a then b else a) x ≤ y := by
  induction l with
  | nil => exact fun x => ⟨by simp, fun y hy => by simp at hy; rw [hy]; exact Int.le_refl _⟩
  | cons z r ih =>
    intro x
    rw [List.foldl_cons]
    obtain ⟨h1, h2⟩ := ih (if z < x then z else x)
    refine ⟨?_, fun y hy => ?_⟩
    · rcases List.mem_cons.mp h1 with e | h
      · rw [e]; split <;> simp
      · exact List.mem_cons_of_mem _ (List.mem_cons_of_mem _ h)
    · have h3 := h2 _ List.mem_cons_self
      rcases List.mem_cons.mp hy with e | hy
      · rw [e]; refine Int.le_trans h3 ?_; split <;> omega
      · rcases List.mem_cons.mp hy with e | hy
        · rw [e]; refine Int.le_trans h3 ?_; split <;> omega
        · exact h2 y (List.mem_cons_of_mem _ hy)
theorem greatest_aux (l : List Int) : ∀ x : Int, (l.foldl (fun a b => if a < b then b else a) x ∈ x :: l) ∧ ∀ y ∈ x :: l, y ≤ l.foldl (fun a b => if a < b then b else a) x := by
  induction l with
  | nil => exact fun x => ⟨by simp, fun y hy => by simp at hy; rw [hy]; exact Int.le_refl _⟩
  | cons z r ih =>
    intro x
    rw [List.foldl_cons]
    obtain ⟨h1, h2⟩ := ih (if x < z then z else x)
    refine ⟨?_, fun y hy => ?_⟩
    · rcases List.mem_cons.mp h1 with e | h
      · rw [e]; split <;> simp
      · exact List.mem_cons_of_mem _ (List.mem_cons_of_mem _ h)
    · have h3 := h2 _ List.mem_cons_self
      rcases List.mem_cons.mp hy with e | hy
      · rw [e]; refine Int.le_trans ?_ h3; split <;> omega
      · rcases List.mem_cons.mp hy with e | hy
        · rw [e]; refine Int.le_trans ?_ h3; split <;> omega
        · exact h2 y (List.mem_cons_of_mem _ hy)
theorem least_is {l : List Int} (hl : 0 < l.length) {m : Int} (h1 : m ∈ l) (h2 : ∀ y ∈ l, m ≤ y) : m = least l := by
  cases l with
  | nil => simp at hl
  | cons x r =>
    obtain ⟨h3, h4⟩ := least_aux r x
    exact Int.le_antisymm (h2 _ h3) (h4 _ h1)
theorem greatest_is {l : List Int} (hl : 0 < l.length) {m : Int} (h1 : m ∈ l) (h2 : ∀ y ∈ l, y ≤ m) : m = greatest l := by
  cases l with
  | nil => simp at hl
  | cons x r =>
    obtain ⟨h3, h4⟩ := greatest_aux r x
    exact Int.le_antisymm (h4 _ h1) (h2 _ h3)
theorem fm_mapIdx (l : List Int) (f : Nat → Int → Int) : (List.range l.length).filterMap (fun i => some (V.int (f i (l.getD i 0)))) = (l.mapIdx f).map V.int := by
  rw [List.filterMap_eq_map']
  apply List.ext_getElem
  · simp
  · intro i h1 h2
    simp at h1 h2 ⊢
    rw [List.getElem?_eq_getElem h1]
    rfl
theorem small_of {x : Int} (h : small x = true) : -1000 ≤ x ∧ x ≤ 1000 := by
  unfold small at h
  simpa using h
theorem getD_small {l : List Int} (h : l.all small = true) (i : Nat) : -1000 ≤ l.getD i 0 ∧ l.getD i 0 ≤ 1000 := by
  rw [List.getD_eq_getElem?_getD]
  cases e : l[i]? with
  | none => exact ⟨by decide, by decide⟩
  | some x => exact small_of (List.all_eq_true.mp h x (List.mem_of_getElem? e))
theorem at_ints {l : List Int} {i : Nat} (h : i < l.length) : atI (l.map V.int) ((i : Nat) : Int) = some (.int (l.getD i 0)) := by
  refine atI_nat ?_
  rw [List.getElem?_map, List.getElem?_eq_getElem h, List.getD_eq_getElem?_getD, List.getElem?_eq_getElem h]
  rfl
theorem mem_mapIdx_small {l : List Int} {f : Nat → Int → Int} {c : Int} (h : ∀ i x, i < l.length → l.getD i 0 = x → -c ≤ f i x ∧ f i x ≤ c) {y : Int} (hy : y ∈ l.mapIdx f) : -c ≤ y ∧ y ≤ c := by
  obtain ⟨i, hi, e⟩ := List.mem_mapIdx.mp hy
  rw [← e]
  refine h i _ hi ?_
  rw [List.getD_eq_getElem?_getD, List.getElem?_eq_getElem hi]
  rfl
section
variable {K : PySem.W.Frag} {a : Addr} {xs : List V}
theorem walk_enumT : Walk (IteT K a) xs.length (fun H => SqT K H a xs) (YPair (fun i => some (.int (i : Nat))) (fun i => xs[i]?)) := by
  refine ⟨fun i _ hi q => ⟨xs, xs[i], q, by simp [hi]⟩, fun _ q => ⟨xs, q, rfl⟩, fun i H v H' _ q y => ?_⟩
  obtain ⟨T, x, h1, h2, h3, h4⟩ := y
  exact ⟨T, .int (i : Nat), x, h1, h2, h3, rfl, h4 xs q⟩
end
section
variable {P : Program} {w : World} {K : PySem.W.Frag} {mg : Str → Option Value} {base : Heap}
/-! ### numbers_next -/
abbrev st_next : Stmt := topS 27
abbrev N_next : List Str := ["ranks", "told", "place", "own", "whole", "most", "least", "bits", "number"]
theorem sc_next : FnScope N_next ["ranks", "told", "place"] (defScope st_next) := ⟨rfl, rfl, rfl, by decide +kernel, rfl, by decide +kernel, by decide +kernel⟩
def sp_next : Sp := fun vs H Q _ => ∃ (r t : Addr) (p k : Nat) (rk told : List Int), vs = [.ref r, .ref t, .int p] ∧ H r = some (.lst (rk.map V.int)) ∧ H t = some (.lst (told.map V.int)) ∧ k ≤ 3 ∧ p < k ∧ rk.length = 2 ^ k ∧ told.length = 2 ^ p ∧ rk.all small = true ∧ told.all small = true ∧
  ∀ (q : Addr) (H' : Hp), Same H H' → H q = none → H' q = some (.lst ((nums rk told p).map V.int)) → (nums rk told p).length ≤ 6001 → Q (.ref q) H'
theorem ok_next (S : Src K mg "numbers_next" st_next ["ranks", "told", "place"]) (B : Blt mg) : Cal P w K mg base 1 "numbers_next" ["ranks", "told", "place"] sp_next := by
  refine S.cal sc_next (fun vs H Q E h => ?_) (fun f cdv A outer s H vs Q E hr h => ?_)
  · obtain ⟨r, t, p, k, rk, told, rfl, _⟩ := h
    rfl
  · obtain ⟨r, t, p, k, rk, told, rfl, hrk, ht, hk3, hpk, hrl, htl, hrs, hts, q⟩ := h
    refine ⟨_, pss_cons (ps_asg (pe_tup (pa_cons (pe_op op_shl pe_int (pv 2)) (pa_cons (pe_op op_sub (pe_len B (pv 0)) pe_int) pa_nil))) (pgT K rfl (pgs_cons (pg_name (i := 3) sc_next.nd rfl (.inr rfl)) (pgs_cons (pg_name (i := 4) sc_next.nd rfl (.inr rfl)) pgs_nil))))
      (pss_cons (ps_set (i := 5) sc_next.nd rfl (.inl rfl) (pe_callB (cr_min rfl) (by rfl) B.min boot_min (pa_cons
          (pe_lc (own := [("bits", 7), ("number", 8)]) (g := gTupK K 2 (gCons (gName 7) (gCons (gName 8) gNil))) rfl sc_next.nd (pi_enum (by rfl) B.enumerate (pa_cons (pv 1) pa_nil)) (blkOk_by (own := [("bits", 7), ("number", 8)]) (N := N_next) (sc := defScope st_next) (by decide +kernel))
            (fun _ _ _ _ _ => pgT K rfl (pgs_cons (pg_name (i := 7) sc_next.nd rfl (Or.inl rfl)) (pgs_cons (pg_name (i := 8) sc_next.nd rfl (Or.inl rfl)) pgs_nil)))
            (fun _ _ _ _ _ => pts_nil)
            (fun _ _ _ _ _ => pe_op op_sub (pe_ix (ixL K) (pv 0) (pe_op op_or (pv 7) (pv 3)) (fun _ _ => rfl)) (pv 8))) pa_nil)))
      (pss_cons (ps_set (i := 6) sc_next.nd rfl (.inl rfl) (pe_callB (cr_max rfl) (by rfl) B.max boot_max (pa_cons
          (pe_lc (own := [("bits", 7), ("number", 8)]) (g := gTupK K 2 (gCons (gName 7) (gCons (gName 8) gNil))) rfl sc_next.nd (pi_enum (by rfl) B.enumerate (pa_cons (pv 1) pa_nil)) (blkOk_by (own := [("bits", 7), ("number", 8)]) (N := N_next) (sc := defScope st_next) (by decide +kernel))
            (fun _ _ _ _ _ => pgT K rfl (pgs_cons (pg_name (i := 7) sc_next.nd rfl (Or.inl rfl)) (pgs_cons (pg_name (i := 8) sc_next.nd rfl (Or.inl rfl)) pgs_nil)))
            (fun _ _ _ _ _ => pts_nil)
            (fun _ _ _ _ _ => pe_op op_sub (pe_op op_sub (pe_ix (ixL K) (pv 0) (pv 4) (fun _ _ => rfl)) (pe_ix (ixL K) (pv 0) (pe_op op_xor (pv 4) (pe_op op_or (pv 7) (pv 3))) (fun _ _ => rfl))) (pv 8))) pa_nil)))
      (pss_one (ps_ret (pe_listRg rfl (by rfl) B.list (prg_2 (by rfl) B.range (pv 6) (pe_op op_add (pv 5) pe_int)))))))
      , ?_⟩
    have hp3 : p < 3 := by omega
    have e2 : ((1 : Int) * 2 ^ ((p : Nat) : Int).toNat) = ((2 ^ p : Nat) : Int) := by
      rw [Int.one_mul, Int.toNat_natCast]
      norm_cast
    have h1k : 1 ≤ 2 ^ k := Nat.one_le_two_pow
    have hk8 : 2 ^ k ≤ 8 := Nat.pow_le_pow_right (by decide) hk3
    have hp1 : 1 ≤ 2 ^ p := Nat.one_le_two_pow
    have hp4 : 2 ^ p ≤ 4 := Nat.pow_le_pow_right (n := 2) (i := p) (j := 2) (by decide) (by omega)
    have ewh : (((rk.map V.int).length : Nat) : Int) - 1 = ((2 ^ k - 1 : Nat) : Int) := by rw [List.length_map, hrl]; exact (Int.ofNat_sub h1k).symm
    refine ⟨.int p, rfl, 1, p, rfl, rfl, ⟨by omega, by omega, by decide⟩, .ref r, rfl, r, _, rfl, .inl (SqL.of hrk), _, _, rfl, rfl, ?_⟩
    dsimp only
    rw [ewh, e2]
    refine ⟨by show 2 ≤ sizeLine; decide, fun u hu => ?_⟩
    have hrk1 : (upd H u (.tup [.int ((2 ^ p : Nat) : Int), .int ((2 ^ k - 1 : Nat) : Int)])) r = some (.lst (rk.map V.int)) := same_new hu _ _ _ hrk
    have ht1 : (upd H u (.tup [.int ((2 ^ p : Nat) : Int), .int ((2 ^ k - 1 : Nat) : Int)])) t = some (.lst (told.map V.int)) := same_new hu _ _ _ ht
    have s1 : Same H (upd H u (.tup [.int ((2 ^ p : Nat) : Int), .int ((2 ^ k - 1 : Nat) : Int)])) := same_new hu _
    refine ⟨u, _, rfl, st_new, rfl, _, _, rfl, _, _, rfl, rfl, ?_⟩
    generalize (upd H u (.tup [.int ((2 ^ p : Nat) : Int), .int ((2 ^ k - 1 : Nat) : Int)])) = H1 at hrk1 ht1 s1
    have hor : ∀ i, i < 2 ^ p → i ||| 2 ^ p < 2 ^ k := fun i hi => or_lt k (by omega) p hpk i hi
    have hxor : ∀ i, i < 2 ^ p → (2 ^ k - 1) ^^^ (i ||| 2 ^ p) < 2 ^ k := fun i hi => xor_lt k (by omega) _ (hor i hi)
    have hor8 : ∀ i, i < 2 ^ p → i ||| 2 ^ p < 8 := fun i hi => by have := hor i hi; omega
    refine ⟨.ref t, rfl, t, _, rfl, SqL.of ht1, fun D hD => lc_filt walk_enum (fun i => some (.int (rk.getD (i ||| 2 ^ p) 0 - told.getD i 0))) (by rw [List.length_map, htl]; omega) hD (fun H' s => s.seq (SqL.of ht1)) ?_ ?_⟩
    · intro i x H2 H2' hi s2 hD1 hY R1 R0 g1 g0
      rw [List.length_map, htl] at hi
      obtain ⟨T, y, z, rfl, hT, rfl, ey, ez⟩ := hY
      have ey' := Option.some.inj ey
      subst ey'
      replace ez : (told.map V.int)[i]? = some z := ez
      rw [List.getElem?_map, List.getElem?_eq_getElem (by omega)] at ez
      have ez' := Option.some.inj ez
      have ed : told.getD i 0 = told[i]'(by omega) := by rw [List.getD_eq_getElem?_getD, List.getElem?_eq_getElem (by omega)]; rfl
      rw [← ed] at ez'
      subst ez'
      refine ⟨T, _, rfl, st_new, rfl, _, _, rfl, _, _, rfl, rfl, rfl, .ref r, rfl, .int (i : Int), rfl, .int ((2 ^ p : Nat) : Int), rfl, _, _, rfl, rfl, r, _, _, .int (rk.getD (i ||| 2 ^ p) 0), rfl, rfl, SqL.of (same_new hT _ _ _ (s2 _ _ hrk1)), ?_, .int (told.getD i 0), rfl, _, _, rfl, rfl, g1 _ _ rfl (same_new hT _)⟩
      rw [or_int p hp3 i hi]
      exact at_ints (by rw [hrl]; exact hor i hi)
    · intro H2 s2 hD2
      have hD2' : H2 D = some (.lst ((hiL rk told p).map V.int)) := by
        rw [hD2, List.length_map]
        exact congrArg (fun z => some (HO.lst z)) (fm_mapIdx told fun i n => rk.getD (i ||| 2 ^ p) 0 - n)
      have hhl : (hiL rk told p).length = 2 ^ p := by unfold hiL; rw [List.length_mapIdx, htl]
      refine ⟨D, _, rfl, SqL.of hD2', by omega, fun m hm1 hm2 => ?_⟩
      have em : m = least (hiL rk told p) := least_is (by omega) hm1 hm2
      have bm : -2000 ≤ m ∧ m ≤ 2000 := mem_mapIdx_small (c := 2000) (fun i x _ e => by
        have h1 := getD_small hrs (i ||| 2 ^ p)
        have h2 := getD_small hts i
        rw [e] at h2
        exact ⟨by omega, by omega⟩) hm1
      have hrk2 := s2 _ _ hrk1
      have ht2 := s2 _ _ ht1
      refine ⟨.ref t, rfl, t, _, rfl, SqL.of ht2, fun D2 hDD => lc_filt walk_enum (fun i => some (.int (rk.getD (rk.length - 1) 0 - rk.getD ((rk.length - 1) ^^^ (i ||| 2 ^ p)) 0 - told.getD i 0))) (by rw [List.length_map, htl]; omega) hDD (fun H' s => s.seq (SqL.of ht2)) ?_ ?_⟩
      · intro i x H3 H3' hi s3 hD1 hY R1 R0 g1 g0
        rw [List.length_map, htl] at hi
        obtain ⟨T, y, z, rfl, hT, rfl, ey, ez⟩ := hY
        have ey' := Option.some.inj ey
        subst ey'
        replace ez : (told.map V.int)[i]? = some z := ez
        rw [List.getElem?_map, List.getElem?_eq_getElem (by omega)] at ez
        have ez' := Option.some.inj ez
        have ed : told.getD i 0 = told[i]'(by omega) := by rw [List.getD_eq_getElem?_getD, List.getElem?_eq_getElem (by omega)]; rfl
        rw [← ed] at ez'
        subst ez'
        have hrk3 := same_new hT (.tup [.int ((i : Nat) : Int), .int (told.getD i 0)]) _ _ (s3 _ _ hrk2)
        refine ⟨T, _, rfl, st_new, rfl, _, _, rfl, _, _, rfl, rfl, rfl, .ref r, rfl, .int ((2 ^ k - 1 : Nat) : Int), rfl, r, _, _, .int (rk.getD (rk.length - 1) 0), rfl, rfl, SqL.of hrk3, ?_, .ref r, rfl, .int ((2 ^ k - 1 : Nat) : Int), rfl, .int (i : Int), rfl, .int ((2 ^ p : Nat) : Int), rfl, _, _, rfl, rfl, _, _, rfl, rfl, r, _, _, .int (rk.getD ((rk.length - 1) ^^^ (i ||| 2 ^ p)) 0), rfl, rfl, SqL.of hrk3, ?_, _, _, rfl, rfl, .int (told.getD i 0), rfl, _, _, rfl, rfl, g1 _ _ rfl (same_new hT _)⟩
        · rw [hrl]
          exact at_ints (by omega)
        · rw [or_int p hp3 i hi, bit_xor (2 ^ k - 1) (by omega) _ (hor8 i hi), hrl]
          exact at_ints (by rw [hrl]; exact hxor i hi)
      · intro H3 s3 hD3
        have hD3' : H3 D2 = some (.lst ((loL rk told p).map V.int)) := by
          rw [hD3, List.length_map]
          exact congrArg (fun z => some (HO.lst z)) (fm_mapIdx told fun i n => rk.getD (rk.length - 1) 0 - rk.getD ((rk.length - 1) ^^^ (i ||| 2 ^ p)) 0 - n)
        have hll : (loL rk told p).length = 2 ^ p := by unfold loL; rw [List.length_mapIdx, htl]
        refine ⟨D2, _, rfl, SqL.of hD3', by omega, fun m' hm1' hm2' => ?_⟩
        have em' : m' = greatest (loL rk told p) := greatest_is (by omega) hm1' hm2'
        have bm' : -3000 ≤ m' ∧ m' ≤ 3000 := mem_mapIdx_small (c := 3000) (fun i x _ e => by
          have h1 := getD_small hrs (rk.length - 1)
          have h3 := getD_small hrs ((rk.length - 1) ^^^ (i ||| 2 ^ p))
          have h2 := getD_small hts i
          rw [e] at h2
          exact ⟨by omega, by omega⟩) hm1'
        refine ⟨.int m', rfl, .int m, rfl, _, _, rfl, rfl, _, _, rfl, rfl, ⟨by omega, by omega, by omega, by omega, by omega⟩, fun z hz => ?_⟩
        have en : (rgV m' (m + 1)) = (nums rk told p).map V.int := by
          unfold nums upto rgV
          rw [← em, ← em', List.map_map]
          rfl
        rw [en]
        refine q z _ (((s1.trans s2).trans s3).trans (same_new hz _)) (((s1.trans s2).trans s3).free hz) upd_same ?_
        have := congrArg List.length en
        rw [rgV_length, List.length_map] at this
        omega
end
end Hk

set_option Elab.async false
set_option linter.all false
set_option maxRecDepth 100000
set_option maxHeartbeats 4000000
namespace Hk
open PySem PySem.Spec PyProof.Rows L2 Hm
/-- an entry: the tuple of a row and the sums -/
def FAt (K : PySem.W.Frag) (H : Hp) (v : V) (f : List Int × List Int) : Prop := ∃ e r t, v = .ref e ∧ SqT K H e [.ref r, .ref t] ∧ SqT K H r (f.1.map V.int) ∧ H t = some (.lst (f.2.map V.int))
theorem FAt.same {K : PySem.W.Frag} {H H' : Hp} {v : V} {f : List Int × List Int} (s : Same H H') (h : FAt K H v f) : FAt K H' v f := by
  obtain ⟨e, r, t, h1, h2, h3, h4⟩ := h
  exact ⟨e, r, t, h1, same_seqT s h2, same_seqT s h3, s _ _ h4⟩
theorem paired_imp {α β : Type} {F F' : α → β → Prop} (h : ∀ a b, F a b → F' a b) : ∀ {xs : List α} {ys : List β}, Paired F xs ys → Paired F' xs ys
  | _, _, .nil => .nil
  | _, _, .cons q t => .cons (h _ _ q) (paired_imp h t)
theorem paired_snoc {α β : Type} {F : α → β → Prop} {x : α} {y : β} (q : F x y) : ∀ {xs : List α} {ys : List β}, Paired F xs ys → Paired F (xs ++ [x]) (ys ++ [y])
  | _, _, .nil => .cons q .nil
  | _, _, .cons h t => .cons h (paired_snoc q t)
theorem flat_take {α β : Type} (l : List α) (g : α → List β) (j : Nat) : ((l.take j).flatMap g).length ≤ (l.flatMap g).length := by
  have e : l.flatMap g = (l.take j).flatMap g ++ (l.drop j).flatMap g := by rw [← List.flatMap_append, List.take_append_drop]
  rw [e, List.length_append]
  omega
theorem flat_succ {α β : Type} (l : List α) (g : α → List β) (j : Nat) (x : α) (h : l[j]? = some x) : (l.take (j + 1)).flatMap g = (l.take j).flatMap g ++ g x := by
  rw [List.take_add_one, h, List.flatMap_append]
  simp
section
variable {P : Program} {w : World} {K : PySem.W.Frag} {mg : Str → Option Value} {base : Heap}
/-! ### rows_in -/
abbrev st_rows : Stmt := topS 28
abbrev N_rows : List Str := ["web", "side", "ranks", "found", "place", "longer", "row", "told", "number", "own", "_"]
theorem sc_rows : FnScope N_rows ["web", "side"] (defScope st_rows) := ⟨rfl, rfl, rfl, by decide +kernel, rfl, by decide +kernel, by decide +kernel⟩
def sp_rows (K : PySem.W.Frag) : Sp := fun vs H Q _ => ∃ (v : V) (wb : Web) (side : Nat), vs = [v, .int side] ∧ Dp K H v (encW wb) ∧ side ≤ 1 ∧ (∀ t ∈ wb.ties, t.1 < wb.m ∧ t.2 < wb.n) ∧ Small wb ∧ okRows wb side = true ∧
  ∀ (p : Addr) (H' : Hp) (us : List V), Same H H' → H' p = some (.lst us) → DpAll K H' us ((rows wb side).map tupD) → Q (.ref p) H'
theorem ok_rows (S : Src K mg "rows_in" st_rows ["web", "side"]) (B : Blt mg) (hLi : ∃ t, mg "LISTED" = some (.int 2000 t)) (C1 : Cal P w K mg base 5 "ranks_by" ["web", "side"] (sp_ranks K)) (C2 : Cal P w K mg base 1 "numbers_next" ["ranks", "told", "place"] sp_next) : Cal P w K mg base 6 "rows_in" ["web", "side"] (sp_rows K) := by
  obtain ⟨tL, hLi⟩ := hLi
  refine S.cal sc_rows (fun vs H Q E h => ?_) (fun f cdv A outer s H vs Q E hr h => ?_)
  · obtain ⟨v, wb, side, rfl, _⟩ := h
    rfl
  · obtain ⟨v, wb, side, rfl, hd, hs, hbd, hsm, hok, q⟩ := h
    obtain ⟨a, t, rfl, hT, hd3⟩ := dp_web hd
    have hk3 : wb.size side ≤ 3 := size_le hsm
    unfold okRows at hok
    rw [Bool.and_eq_true] at hok
    obtain ⟨hrs, hfs⟩ := hok
    have hfj : ∀ j, j ≤ wb.size side → (found (ranksBy wb side) j).length ≤ 2000 ∧ ∀ f ∈ found (ranksBy wb side) j, f.1.length = j ∧ f.2.length = 2 ^ j ∧ f.2.all small = true ∧ f.1.all small = true := by
      intro j hj
      have h := List.all_eq_true.mp hfs j (List.mem_range.mpr (by omega))
      rw [Bool.and_eq_true] at h
      refine ⟨of_decide_eq_true h.1, fun f hf => ?_⟩
      have h2 := List.all_eq_true.mp h.2 f hf
      simp only [Bool.and_eq_true, beq_iff_eq] at h2
      exact ⟨h2.1.1.1, h2.1.1.2, h2.1.2, h2.2⟩
    refine ⟨_, pss_cons (ps_par (i := 2) (j := 3) rfl sc_rows.nd rfl rfl (by decide) rfl rfl (pa_cons (pe_cal C1 hr (by rfl) (pa_cons (pv 0) (pa_cons (pv 1) pa_nil))) (pa_cons (pe_lst (pa_cons (pe_tup (pa_cons (pe_tup pa_nil) (pa_cons (pe_lst (pa_cons pe_int pa_nil)) pa_nil))) pa_nil)) pa_nil)) (by rfl))
      (pss_cons (ps_for PassesOwn.never rfl (pi_range1 (by rfl) B.range (pa_cons (pe_ix (ixT K) (pv 0) (pv 1) (fun _ _ => rfl)) pa_nil)) (pg_name (i := 4) sc_rows.nd rfl (.inl rfl))
        (pss_cons (ps_set (i := 5) sc_rows.nd rfl (.inl rfl) (pe_lst pa_nil))
        (pss_cons (ps_for PassesOwn.never rfl (pi_list (pv 3)) (pgT K rfl (pgs_cons (pg_name (i := 6) sc_rows.nd rfl (Or.inl rfl)) (pgs_cons (pg_name (i := 7) sc_rows.nd rfl (Or.inl rfl)) pgs_nil)))
          (pss_cons (ps_for PassesOwn.never rfl (pi_list (pe_cal C2 (hr.mono (by decide)) (by rfl) (pa_cons (pv 2) (pa_cons (pv 7) (pa_cons (pv 4) pa_nil))))) (pg_name (i := 8) sc_rows.nd rfl (.inr rfl))
            (pss_one (ps_expr (pe_bm PySem.F.plainAttrs_list PySem.F.slot_list_append PySem.F.type_list_append mt_append (pv 5)
              (pa_cons (pe_tup (pa_cons (pe_op op_catA (pv 6) (pe_tup (pa_cons (pv 8) pa_nil))) (pa_cons (pe_op op_cat (pv 7)
                (pe_lc (own := [("own", 9)]) (g := gName 9) rfl sc_rows.nd (pi_list (pv 7)) (blkOk_by (own := [("own", 9)]) (N := N_rows) (sc := defScope st_rows) (by decide +kernel))
                  (fun _ _ _ _ _ => pg_name (i := 9) sc_rows.nd rfl (Or.inl rfl))
                  (fun _ _ _ _ _ => pts_nil)
                  (fun _ _ _ _ _ => pe_op op_add (pv 9) (pv 8)))) pa_nil))) pa_nil)))))
          (pss_one (ps_if (pt_cmp (pc_gt (pe_len B (pv 5)) (pe_glob (v := .int 2000) (by rfl) hLi ⟨_, rfl⟩))) (pss_one ps_never) pss_nil))))
        (pss_one (ps_set (i := 3) sc_rows.nd rfl (.inl rfl) (pv 5))))))
      (pss_one (ps_ret (pe_lc (own := [("row", 6), ("_", 10)]) (g := gTupK K 2 (gCons (gName 6) (gCons (gName 10) gNil))) rfl sc_rows.nd (pi_list (pv 3)) (blkOk_by (own := [("row", 6), ("_", 10)]) (N := N_rows) (sc := defScope st_rows) (by decide +kernel))
            (fun _ _ _ _ _ => pgT K rfl (pgs_cons (pg_name (i := 6) sc_rows.nd rfl (Or.inl rfl)) (pgs_cons (pg_name (i := 10) sc_rows.nd rfl (Or.inl rfl)) pgs_nil)))
            (fun _ _ _ _ _ => pts_nil)
            (fun _ _ _ _ _ => pv 6))))), ?_⟩
    refine ⟨.ref a, rfl, .int side, rfl, .ref a, wb, side, rfl, hd, hs, hbd, hsm, fun rl H0 s0 hrl0 hrl => ?_⟩
    have hrk8 : (ranksBy wb side).length = 2 ^ wb.size side := by
      unfold ranksBy
      rw [List.length_cons, List.length_map, List.length_range']
      have := Nat.one_le_two_pow (n := wb.size side)
      omega
    generalize hrk : ranksBy wb side = rk at hrl hrs hfj hrk8
    have hT0 := same_seqT s0 hT
    -- [((), [0])]
    refine ⟨by show 0 ≤ sizeLine; decide, fun x1 hx1 => ⟨by show 1 ≤ sizeLine; decide, fun x2 hx2 => ⟨by show 2 ≤ sizeLine; decide, fun x3 hx3 => ⟨by show 1 ≤ sizeLine; decide, fun x4 hx4 => ?_⟩⟩⟩⟩
    refine ⟨_, _, rfl, ?_⟩
    have sA : Same H0 (upd H0 x1 (.tup [])) := same_new hx1 _
    have sB := sA.trans (same_new hx2 (.lst [.int 0]))
    have sC := sB.trans (same_new hx3 (.tup [.ref x1, .ref x2]))
    have sD := sC.trans (same_new hx4 (.lst [.ref x3]))
    have f0 : FAt K (upd (upd (upd (upd H0 x1 (.tup [])) x2 (.lst [.int 0])) x3 (.tup [.ref x1, .ref x2])) x4 (.lst [.ref x3])) (.ref x3) ([], [0]) := by
      have n43 := same_new hx4 (.lst [V.ref x3])
      have n32 := (same_new hx3 (.tup [V.ref x1, V.ref x2]))
      refine ⟨x3, x1, x2, rfl, same_seqT n43 st_new, same_seqT ((same_new hx2 _).trans (n32.trans n43)) st_new, (n32.trans n43) _ _ upd_same⟩
    have hfl0 : (upd (upd (upd (upd H0 x1 (.tup [])) x2 (.lst [.int 0])) x3 (.tup [.ref x1, .ref x2])) x4 (.lst [.ref x3])) x4 = some (.lst [.ref x3]) := upd_same
    generalize (upd (upd (upd (upd H0 x1 (.tup [])) x2 (.lst [.int 0])) x3 (.tup [.ref x1, .ref x2])) x4 (.lst [.ref x3])) = HD at sD f0 hfl0
    refine ⟨.ref a, rfl, .int side, rfl, a, _, _, .int ((wb.size side : Nat) : Int), rfl, rfl, same_seqT sD hT0, web_at (H := H) (K := K) (a := a) hs, ?_⟩
    refine ⟨_, rfl, by omega, by omega, for_it walk_range (fun i σ H1 => ∃ y4 y5 y6 y7 y8 fl us, σ = [some (.ref a), some (.int side), some (.ref rl), some (.ref fl), y4, y5, y6, y7, y8, none, none] ∧ Same H0 H1 ∧ H1 fl = some (.lst us) ∧ Paired (FAt K H1) us (found rk i))
      ⟨none, none, none, none, none, x4, [.ref x3], rfl, sD, hfl0, .cons f0 .nil⟩ (fun _ _ _ _ _ => trivial) (fun i x σ H1 H1' hi p hY => ?_) (fun σ H1 p => ?_)⟩
    · have hi' : i < wb.size side := by
        rw [show ((((wb.size side : Nat) : Int) : Int)).toNat = wb.size side from Int.toNat_natCast _] at hi
        exact hi
      obtain ⟨y4, y5, y6, y7, y8, fl, us, rfl, s1, hfl, hus⟩ := p
      obtain ⟨rfl, rfl⟩ := hY
      have e0 : (0 : Int) + (i : Int) = (i : Int) := Int.zero_add _
      show gName 4 (V.int ((0 : Int) + (i : Int))) _ _ _
      rw [e0]
      refine ⟨by show 0 ≤ sizeLine; decide, fun lo hlo => ?_⟩
      have hfu : us.length = (found rk i).length := Paired.length hus
      obtain ⟨hfi, hff⟩ := hfj i (by omega)
      have hfs2 := (hfj (i + 1) (by omega)).1
      refine ⟨.ref fl, rfl, fl, rfl, ⟨_, SqL.of (same_new hlo _ _ _ hfl)⟩, for_it (walk_list (xs := us)) (fun j σ H2 => ∃ y6 y7 y8 G vs, σ = [some (.ref a), some (.int side), some (.ref rl), some (.ref fl), some (.int (i : Int)), some (.ref lo), y6, y7, y8, none, none] ∧ Same H1' G ∧ Same G H2 ∧ G lo = none ∧ H2 lo = some (.lst vs) ∧ Paired (FAt K G) vs (((found rk i).take j).flatMap (longer rk i)))
        ⟨y6, y7, y8, H1', [], rfl, Same.refl _, same_new hlo _, hlo, upd_same, .nil⟩ (fun j σ H2 _ p => ?_) (fun j x σ H2 H2' hj p hY => ?_) (fun σ H2 p => ?_)⟩
      · obtain ⟨_, _, _, G, vs, _, g1, g2, _⟩ := p
        exact SqL.of (g2 _ _ (g1 _ _ hfl))
      · obtain ⟨y6, y7, y8, G, vs, rfl, g1, g2, gn, hvs, hpv⟩ := p
        obtain ⟨rfl, hx⟩ := hY
        obtain ⟨f, hf, e, r, t2, rfl, he, hr1, ht1⟩ := paired_at hus hx
        obtain ⟨hl1, hl2, hl3, hl4⟩ := hff f (List.mem_of_getElem? hf)
        have g12 := g1.trans g2
        refine ⟨e, _, rfl, same_seqT g12 he, rfl, _, _, rfl, _, _, rfl, rfl, ?_⟩
        refine ⟨.ref rl, rfl, .ref t2, rfl, .int i, rfl, rl, t2, i, wb.size side, rk, f.2, rfl, g12 _ _ (s1 _ _ hrl), g12 _ _ ht1, hk3, hi', hrk8, hl2, hrs, hl3, fun nl H3 s3 hnl0 hnl hnlen => ?_⟩
        have hlo3 := s3 _ _ hvs
        have nlo : nl ≠ lo := fun e => by rw [e, hvs] at hnl0; cases hnl0
        have htot : (((found rk i).take (j + 1)).flatMap (longer rk i)).length ≤ 2000 := Nat.le_trans (flat_take _ _ _) hfs2
        have htot' := htot
        rw [flat_succ _ _ _ _ hf, List.length_append] at htot'
        have hgl : (longer rk i f).length = (nums rk f.2 i).length := by unfold longer; rw [List.length_map]
        refine ⟨nl, rfl, ⟨_, SqL.of hnl⟩, for_it (walk_list (xs := (nums rk f.2 i).map V.int)) (fun k σ H4 => ∃ y8 G' vs', σ = [some (.ref a), some (.int side), some (.ref rl), some (.ref fl), some (.int (i : Int)), some (.ref lo), some (.ref r), some (.ref t2), y8, none, none] ∧ Same G G' ∧ Same G' H4 ∧ G' lo = none ∧ H4 lo = some (.lst vs') ∧ H4 nl = some (.lst ((nums rk f.2 i).map V.int)) ∧ Paired (FAt K G') vs' (((found rk i).take j).flatMap (longer rk i) ++ (longer rk i f).take k))
          ⟨y8, G, vs, rfl, Same.refl _, g2.trans s3, gn, hlo3, hnl, by rw [List.take_zero, List.append_nil]; exact hpv⟩ (fun k σ H4 _ p => ?_) (fun k x σ H4 H4' hk p hY => ?_) (fun σ H4 p => ?_)⟩
        · obtain ⟨_, G', vs', _, _, _, _, _, h1, _⟩ := p
          exact SqL.of h1
        · obtain ⟨y8, G', vs', rfl, k1, k2, kn, hvs', hnl4, hpv'⟩ := p
          obtain ⟨rfl, hx⟩ := hY
          rw [List.length_map] at hk
          rw [List.getElem?_map, List.getElem?_eq_getElem hk] at hx
          have hx' := Option.some.inj hx
          subst hx'
          have hr4 := same_seqT ((g1.trans k1).trans k2) hr1
          have ht4 := ((g1.trans k1).trans k2) _ _ ht1
          -- longer.append
          have hln : vs'.length < sizeLine := by
            have e := Paired.length hpv'
            rw [List.length_append, List.length_take] at e
            exact Nat.lt_of_le_of_lt (show vs'.length ≤ 2000 by omega) (by decide)
          generalize hn : (nums rk f.2 i)[k] = n
          have hlk : (longer rk i f)[k]? = some (f.1 ++ [n], f.2 ++ f.2.map fun own => own + n) := by
            unfold longer
            rw [List.getElem?_map, List.getElem?_eq_getElem hk, hn]
            rfl
          have hi3 : i < 3 := by omega
          have hl4 : f.2.length ≤ 4 := by
            rw [hl2]
            exact Nat.pow_le_pow_right (n := 2) (i := i) (j := 2) (by decide) (by omega)
          refine ⟨.ref lo, rfl, .inl ⟨rfl, _, SqL.of hvs'⟩, .ref r, rfl, .int n, rfl, by show 1 ≤ sizeLine; decide, fun u hu => ?_⟩
          have E1 : Ext G' H4' (upd G' u (.tup [.int n])) (upd H4' u (.tup [.int n])) := (Ext.rfl' k2).new hu
          have hbd1 : (f.1.map V.int).length + [V.int n].length ≤ sizeLine := by
            rw [List.length_map, hl1]
            exact Nat.le_of_lt (small1000 (n := i + 1) (by omega))
          refine ⟨r, u, _, _, rfl, rfl, same_seqT E1.hh hr4, st_new, hbd1, fun z => ?_, fun _ z => (by cases z), fun _ _ pp hpp => ?_⟩
          have E2 := E1
          have hrr : SqT K (upd G' u (.tup [.int n])) u (f.1.map V.int ++ [.int n]) := by rw [z]; exact st_new
          generalize (upd H4' u (.tup [.int n])) = H5 at E2 ⊢
          generalize (upd G' u (.tup [.int n])) = G5 at E2 hrr
          generalize u = rr at hrr ⊢
          rotate_left
          have E2 := E1.new (o := .tup (f.1.map V.int ++ [.int n])) hpp
          have hrr : SqT K (upd (upd G' u (.tup [.int n])) pp (.tup (f.1.map V.int ++ [.int n]))) pp (f.1.map V.int ++ [.int n]) := st_new
          generalize (upd (upd H4' u (.tup [.int n])) pp (.tup (f.1.map V.int ++ [.int n]))) = H5 at E2 ⊢
          generalize (upd (upd G' u (.tup [.int n])) pp (.tup (f.1.map V.int ++ [.int n]))) = G5 at E2 hrr
          generalize pp = rr at hrr ⊢
          all_goals
            have ht5 := E2.hh _ _ ht4
            refine ⟨.ref t2, rfl, .ref t2, rfl, t2, rfl, ⟨_, SqL.of ht5⟩, fun D hD => lc_filt (walk_list (xs := f.2.map V.int)) (fun q => f.2[q]?.bind fun x => some (V.int (x + n))) (by rw [List.length_map]; omega) hD (fun H' s => SqL.of (s _ _ ht5)) ?_ ?_⟩
            · intro q x H6 H6' hq s6 hD1 hY R1 R0 g1 g0
              obtain ⟨rfl, hx⟩ := hY
              rw [List.length_map] at hq
              rw [List.getElem?_map, List.getElem?_eq_getElem hq] at hx
              have hx' := Option.some.inj hx
              subst hx'
              rw [List.getElem?_eq_getElem hq] at g1
              exact ⟨rfl, .int _, rfl, .int n, rfl, _, _, rfl, rfl, g1 _ _ rfl (Same.refl _)⟩
            · intro H6 s6 hD6
              rw [List.length_map, fm_map] at hD6
              have ht6 := s6 _ _ ht5
              have E3 := E2.same s6
              refine ⟨t2, D, _, _, rfl, rfl, ht6, hD6, ?_, fun p hp => ?_⟩
              · rw [List.length_map, List.length_map]
                exact Nat.le_of_lt (small1000 (n := f.2.length + f.2.length) (by omega))
              · have epp : f.2.map V.int ++ f.2.map (fun x => V.int (x + n)) = (f.2 ++ f.2.map fun own => own + n).map V.int := by
                  rw [List.map_append, List.map_map]
                  rfl
                rw [epp]
                have E4 := E3.new (o := .lst ((f.2 ++ f.2.map fun own => own + n).map V.int)) hp
                refine ⟨by show 2 ≤ sizeLine; decide, fun e2 he2 => ?_⟩
                have E5 := E4.new (o := .tup [.ref rr, .ref p]) he2
                have hlo5 := E5.hh _ _ hvs'
                refine ⟨lo, _, _, rfl, rfl, hlo5, hln, some (.int n), _, _, rfl, k1.trans E5.gg, same_mut E5.gh (E5.none (some_ne hvs') kn), E5.none (some_ne hvs') kn, upd_same, ?_, ?_⟩
                · rw [upd_ne nlo]
                  exact E5.hh _ _ hnl4
                · rw [List.take_add_one, hlk, ← List.append_assoc]
                  refine paired_snoc ?_ (paired_imp (fun _ _ h => h.same E5.gg) hpv')
                  have n1 : (upd (upd G5 p (.lst ((f.2 ++ f.2.map fun own => own + n).map V.int))) e2 (.tup [.ref rr, .ref p])) e2 = some (.tup [.ref rr, .ref p]) := upd_same
                  have s8 : Same (upd G5 p (.lst ((f.2 ++ f.2.map fun own => own + n).map V.int))) (upd (upd G5 p (.lst ((f.2 ++ f.2.map fun own => own + n).map V.int))) e2 (.tup [.ref rr, .ref p])) := same_new (E4.gh.free he2) _
                  have s7 : Same G5 (upd G5 p (.lst ((f.2 ++ f.2.map fun own => own + n).map V.int))) := same_new (E3.gh.free hp) _
                  refine ⟨e2, rr, p, rfl, st_new, ?_, s8 _ _ upd_same⟩
                  have h9 := same_seqT (s7.trans s8) hrr
                  have e9 : f.1.map V.int ++ [V.int n] = (f.1 ++ [n]).map V.int := by rw [List.map_append]; rfl
                  rw [e9] at h9
                  exact h9
        · obtain ⟨y8, G', vs', rfl, k1, k2, kn, hvs', hnl4, hpv'⟩ := p
          rw [List.length_map, ← hgl, List.take_length] at hpv'
          have hvl : vs'.length ≤ 2000 := by
            have e := Paired.length hpv'
            rw [List.length_append] at e
            omega
          refine ⟨.ref lo, rfl, lo, _, rfl, .inl (SqL.of hvs'), _, _, rfl, rfl, _, rfl, ite2 (fun z => ?_) (fun z => ?_)⟩
          · exact absurd (of_decide_eq_true z) (by omega)
          · refine ⟨_, _, _, G', vs', rfl, g1.trans k1, k2, kn, hvs', ?_⟩
            rw [flat_succ _ _ _ _ hf]
            exact hpv'
      · obtain ⟨y6, y7, y8, G, vs, rfl, g1, g2, gn, hvs, hpv⟩ := p
        rw [hfu, List.take_length] at hpv
        exact ⟨.ref lo, rfl, _, _, _, _, _, lo, vs, rfl, (s1.trans g1).trans g2, hvs, paired_imp (fun _ _ h => h.same g2) hpv⟩
    · obtain ⟨y4, y5, y6, y7, y8, fl, us, rfl, s1, hfl, hus⟩ := p
      rw [show ((((wb.size side : Nat) : Int) : Int)).toNat = wb.size side from Int.toNat_natCast _] at hus
      have hul := Paired.length hus
      have hfl2 := (hfj (wb.size side) (Nat.le_refl _)).1
      have hrw : rows wb side = (found rk (wb.size side)).map Prod.fst := by unfold rows; rw [hrk]
      refine ⟨.ref fl, rfl, fl, rfl, ⟨_, SqL.of hfl⟩, fun D hD => lc_data (K := K) (G := H1) (walk_list (xs := us)) ((rows wb side).map tupD) (by rw [List.length_map, hrw, List.length_map]; exact hul) (by omega) (Same.refl _) hD (fun H' s => SqL.of (s _ _ hfl)) ?_ ?_⟩
      · intro i x G2 H2 H2' e hi he hE hD1 gD hY R hR
        obtain ⟨rfl, hx⟩ := hY
        obtain ⟨f, hf, e1, r, t2, rfl, he1, hr1, ht1⟩ := paired_at hus hx
        rw [hrw, List.map_map, List.getElem?_map, hf] at he
        have he' : tupD f.1 = e := Option.some.inj he
        subst he'
        refine ⟨e1, _, rfl, same_seqT hE.hh he1, rfl, _, _, rfl, _, _, rfl, rfl, rfl, .ref r, rfl, hR _ _ _ (Ext.rfl' hE.gh) (Dp.tupI (same_seqT hE.gg hr1))⟩
      · intro G2 H2 us2 hE gD hA hus2
        exact q D H2 us2 ((s0.trans s1).trans hE.hh) hus2 (hA.same hE.gh)
end
end Hk

set_option Elab.async false
set_option linter.all false
set_option maxRecDepth 100000
set_option maxHeartbeats 4000000
namespace Hk
open PySem PySem.Spec PyProof.Rows L2 Hm
section
variable {X : Cx}
theorem zipA (K : PySem.W.Frag) {e e2 : Expr} {ta : TA} {p pos tpos : Pos} {elts : List Expr} {kk : Nat} (hg : Gl X "zip") (hm : X.mg "zip" = none) (ha : PA X [e, e2] ta)
    (hs : starEach [e, e2] X.env = (false, eval e X.env) :: starEach [e2] X.env := by rfl) (hpl : (backTo pos (starEach [e2] X.env)).any (·.1) = false := by rfl) (h : X.K = K := by rfl) :
    PI X (.Tuple elts kk tpos) (.Call (.Name "zip" p) [e, e2] [] pos) (RZ.iZipA K ta) := h ▸ RZ.pi_zipA hg hm ha hs hpl
theorem neI {X : Cx} : OpR X (compareOp .NotEq) rNe := op_ne
end
section
variable {K : PySem.W.Frag} {a b : Addr} {xs ys : List V}
theorem walk_zipT {n : Nat} (hn : n = min xs.length ys.length) : Walk (RZ.ItzT K a b) n (fun H => SqT K H a xs ∧ SqT K H b ys) (YPair (fun i => xs[i]?) (fun i => ys[i]?)) := by
  subst hn
  refine ⟨fun i _ hi q => ?_, fun _ q => ⟨xs, ys, q.1, q.2, by omega⟩, fun i H v H' _ q y => ?_⟩
  · have h1 : i < xs.length := by omega
    have h2 : i < ys.length := by omega
    exact ⟨xs, ys, xs[i], ys[i], q.1, q.2, by simp [h1], by simp [h2]⟩
  · obtain ⟨T, x, z, h1, h2, h3, h4, h5⟩ := y
    exact ⟨T, x, z, h1, h2, h3, h4 xs q.1, h5 ys q.2⟩
end
theorem filt_len {α β : Type} (p : β → Bool) : ∀ (us : List α) (rs : List β), us.length = rs.length → (((us.zip rs).filter fun z => p z.2).map (·.1)).length = (rs.filter p).length
  | [], [], _ => rfl
  | [], _ :: _, h => by cases h
  | _ :: _, [], h => by cases h
  | u :: us, r :: rs, h => by
    have ih := filt_len p us rs (Nat.succ.inj h)
    rw [List.zip_cons_cons, List.filter_cons, List.filter_cons]
    by_cases z : p r = true
    · rw [if_pos z, if_pos z, List.map_cons, List.length_cons, List.length_cons, ih]
    · rw [if_neg z, if_neg z, ih]
/-- named values limits, side, web in the parameters' order -/
def gK {α : Type} : List α → List α → List α
  | [], [a, b, c] => [c, b, a]
  | _, _ => []
abbrev ksL : List Str := ["limits", "side", "web"]
abbrev psL : List Str := ["web", "side", "limits"]
theorem gK_rel {vs : List V} {us : List Value} {zs : List V} {ws : List Value} (h1 : Vals vs us) (h2 : Vals zs ws) : Vals (gK vs zs) (gK us ws) := by
  cases h1 with
  | cons => exact .nil
  | nil =>
    cases h2 with
    | nil => exact .nil
    | cons a h2 =>
      cases h2 with
      | nil => exact .nil
      | cons b h2 =>
        cases h2 with
        | nil => exact .nil
        | cons c h2 =>
          cases h2 with
          | nil => exact .cons c (.cons b (.cons a .nil))
          | cons => exact .nil
structure KCal (P : Program) (w : World) (K : PySem.W.Frag) (mg : Str → Option Value) (base : Heap) (k : Nat) (x : Str) (sp : Sp) : Prop where
  ex : ∃ (f : Addr) (fd : FuncData), FnOk P w K mg base CX0 k f fd psL sp ∧ Binds K fd psL [] ∧ PySem.W.keepIn K (.ref f) = true ∧ mg x = some (.ref f) ∧ KBinds K fd psL ksL gK gK
theorem KCal.cal {P : Program} {w : World} {K : PySem.W.Frag} {mg : Str → Option Value} {base : Heap} {k : Nat} {x : Str} {sp : Sp} (C : KCal P w K mg base k x sp) : Cal P w K mg base k x psL sp := by
  obtain ⟨f, fd, h1, h2, h3, h4, _⟩ := C.ex
  exact ⟨f, fd, h1, h2, h3, h4⟩
theorem KCal.mono {P : Program} {w : World} {K : PySem.W.Frag} {mg : Str → Option Value} {base : Heap} {j k : Nat} {x : Str} {sp : Sp} (C : KCal P w K mg base j x sp) (h : j ≤ k) : KCal P w K mg base k x sp := by
  obtain ⟨f, fd, h1, h2, h3, h4, h5⟩ := C.ex
  exact ⟨f, fd, h1.mono h, h2, h3, h4, h5⟩
theorem Src.kcal {P : Program} {w : World} {K : PySem.W.Frag} {mg : Str → Option Value} {base : Heap} {x : Str} {st : Stmt} {N : List Str} {k : Nat} {sp : Sp} (S : Src K mg x st psL) (kb : ∀ (f : Addr) (fd : FuncData), Fun K x x st f fd → KBinds K fd psL ksL gK gK) (sc : FnScope N psL (defScope st)) (len : ∀ vs H Q E, sp vs H Q E → vs.length = psL.length)
    (hbody : ∀ (f : Addr) (cdv : Value) (A : Around) (outer : List Env) (s : Shared) (H : Hp) (vs : List V) (Q : VK) (E : XK), Room k (A.deeper (envOfC x (defScope st) s.heap.objs.size f cdv)) → sp vs H Q E →
      ∃ t, PSs (cxOf CX0 P w K mg base N x (defScope st) f cdv A outer s H E).nox (defBody st) t ∧ t { nx := fun _ H' => Q .non H', rt := Q } (start N vs) H) : KCal P w K mg base (k + 1) x sp := by
  obtain ⟨f, fd, F, b, m⟩ := S.ex
  exact ⟨f, fd, F.ok sc len (hbody f), b, F.kp, m, kb f fd F⟩
theorem pe_calK {X : Cx} {x : Str} {p pos : Pos} {sp : Sp} {k : Nat} {kws : List Keyword} {tk : TA} (C : KCal X.prog X.w X.K X.mg X.base k x sp) (hr : Room k X.A) (hg : Gl X x) (hkw : PK X kws tk)
    (hall : (backToKw pos (keywordEach kws X.env)).all (·.1.isSome) = true := by rfl) (hks : (backToKw pos (keywordEach kws X.env)).filterMap (·.1) = ksL := by rfl) (hdb : (x == ("__debug__" : Str)) = false := by decide)
    (hpl : ((backTo pos (starEach [] X.env)).any (·.1) || (backToKw pos (keywordEach kws X.env)).any (·.1.isNone)) = false := by rfl) :
    PE X (.Call (.Name x p) [] kws pos) (tCallK sp gK E0 tNil tk) := by
  obtain ⟨f, fd, F, b, kp, m, kb⟩ := C.ex
  exact pe_callK0 F hr hg m kp kb pass0 hkw hall hks hdb hpl
def cmpAll (c : Int → Int → Bool) (r ls : List Int) : Bool := (r.zip ls).all fun z => c z.1 z.2
def manyC (c : Int → Int → Bool) (w : Web) (side : Nat) (ls : List Int) : Nat := ((rows w side).filter fun r => cmpAll c r ls).length
def leB (x y : Int) : Bool := decide (x ≤ y)
def geB (x y : Int) : Bool := decide (y ≤ x)
section
variable {P : Program} {w : World} {K : PySem.W.Frag} {mg : Str → Option Value} {base : Heap}
theorem rows_len {wb : Web} {side : Nat} (h : okRows wb side = true) : (rows wb side).length ≤ 2000 := by
  unfold okRows at h
  rw [Bool.and_eq_true] at h
  have h2 := List.all_eq_true.mp h.2 (wb.size side) (List.mem_range.mpr (by omega))
  rw [Bool.and_eq_true] at h2
  unfold rows
  rw [List.length_map]
  exact of_decide_eq_true h2.1
/-! ### many_rows -/
abbrev st_mrows : Stmt := topS 30
theorem sc_mrows : FnScope ["web", "side", "own"] ["web", "side"] (defScope st_mrows) := ⟨rfl, rfl, rfl, by decide +kernel, rfl, by decide +kernel, by decide +kernel⟩
def sp_mrows (K : PySem.W.Frag) : Sp := fun vs H Q _ => ∃ (v : V) (d : PyData) (wb : Web) (side : Nat), vs = [v, .int side] ∧ Dp K H v d ∧ fit 4 d = true ∧ tupX 4 d = encW wb ∧ okWeb wb = true ∧ Small wb ∧ side ≤ 1 ∧ okRows wb side = true ∧ ∀ H', Same H H' → Q (.int ((rows wb side).length : Nat)) H'
theorem okWeb_bd {wb : Web} (h : okWeb wb = true) : ∀ t ∈ wb.ties, t.1 < wb.m ∧ t.2 < wb.n := (okWeb_inv h).2.2.1
theorem ok_mrows (S : Src K mg "many_rows" st_mrows ["web", "side"]) (B : Blt mg) (C1 : Cal P w K mg base 6 "sure_web" ["web"] (sp_sure_web K)) (C2 : Cal P w K mg base 3 "sure_side" ["side"] sp_sure_side) (C3 : Cal P w K mg base 6 "rows_in" ["web", "side"] (sp_rows K)) : Cal P w K mg base 7 "many_rows" ["web", "side"] (sp_mrows K) := by
  refine S.cal sc_mrows (fun vs H Q E h => ?_) (fun f cdv A outer s H vs Q E hr h => ?_)
  · obtain ⟨v, d, wb, side, rfl, _⟩ := h
    rfl
  · obtain ⟨v, d, wb, side, rfl, hd, hf, hx, hok, hsm, hs, hro, q⟩ := h
    refine ⟨_, pss_cons (ps_set (i := 2) sc_mrows.nd rfl (.inl rfl) (pe_cal C1 hr (by rfl) (pa_cons (pv 0) pa_nil)))
      (pss_one (ps_ret (pe_len B (pe_cal C3 hr (by rfl) (pa_cons (pv 2) (pa_cons (pe_cal C2 (hr.mono (by decide)) (by rfl) (pa_cons (pv 1) pa_nil)) pa_nil)))))), ?_⟩
    refine ⟨v, rfl, v, d, wb, H, rfl, Same.refl _, hd, hf, hx, hok, hsm, fun v' G' H1 hE hd' => ?_⟩
    refine ⟨v', rfl, .int side, rfl, side, rfl, hs, v', wb, side, rfl, hd'.same hE.gh, hs, okWeb_bd hok, hsm, hro, fun p H2 us s2 hp hA => ?_⟩
    refine ⟨p, us, rfl, .inl (SqL.of hp), ?_⟩
    rw [hA.len, List.length_map]
    exact q H2 (hE.hh.trans s2)
/-! ### sure_limits -/
abbrev st_lim : Stmt := topS 31
abbrev N_lim : List Str := ["web", "side", "limits", "own", "number"]
theorem sc_lim : FnScope N_lim ["web", "side", "limits"] (defScope st_lim) := ⟨rfl, rfl, rfl, by decide +kernel, rfl, by decide +kernel, by decide +kernel⟩
def sp_lim (K : PySem.W.Frag) : Sp := fun vs H Q _ => ∃ (v lv : V) (wb : Web) (side : Nat) (d : PyData) (ls : List Int), vs = [v, .int side, lv] ∧ Dp K H v (encW wb) ∧ side ≤ 1 ∧ Small wb ∧ Dp K H lv d ∧ fit 4 d = true ∧ tupX 4 d = tupD ls ∧ ls.length = wb.size side ∧ (∀ x ∈ ls, 0 ≤ x) ∧
  ∀ v' H', Same H H' → Dp K H' v' (tupD ls) → Q v' H'
theorem ok_lim (S : Src K mg "sure_limits" st_lim ["web", "side", "limits"]) (B : Blt mg) (C1 : Cal P w K mg base 4 "tupled" ["value"] (sp_tupled K 4)) (C2 : Cal P w K mg base 1 "is_number" ["thing"] sp_is_number) : Cal P w K mg base 5 "sure_limits" ["web", "side", "limits"] (sp_lim K) := by
  refine S.cal sc_lim (fun vs H Q E h => ?_) (fun f cdv A outer s H vs Q E hr h => ?_)
  · obtain ⟨v, lv, wb, side, d, ls, rfl, _⟩ := h
    rfl
  · obtain ⟨v, lv, wb, side, d, ls, rfl, hw, hs, hsm, hd, hf, hx, hll, h0, q⟩ := h
    obtain ⟨a, t, rfl, hT, hd3⟩ := dp_web hw
    have hk3 : wb.size side ≤ 3 := size_le hsm
    refine ⟨_, pss_cons (ps_set (i := 3) sc_lim.nd rfl (.inl rfl) (pe_cal C1 hr (by rfl) (pa_cons (pv 2) pa_nil)))
      (pss_cons (ps_if (PW.pt (pw_or (pt_not (pt_val (pe_isi B (pv 3) B.tuple boot_tuple)))
        (pw_or1 (pt_cmp (pc_neI (pe_len B (pv 3)) (pe_ix (ixT K) (pv 0) (pv 1) (fun _ _ => rfl))))))) (pss_one ps_never) pss_nil)
      (pss_cons (ps_if (pt_not (pt_val (pe_all B rfl (pe_lc (own := [("number", 4)]) (g := gName 4) (tt := tYes) rfl sc_lim.nd (pi_tup (pv 3)) (blkOk_by (own := [("number", 4)]) (N := N_lim) (sc := defScope st_lim) (by decide +kernel))
          (fun _ _ _ _ _ => pg_name (i := 4) sc_lim.nd rfl (Or.inl rfl)) (fun _ _ _ _ _ => pts_nil) (fun _ _ _ _ _ => pe_and (pe_cal C2 (hr.mono (by decide)) (by rfl) (pa_cons (pv 4) pa_nil)) (pe_one (pe_cmpR op_ge (pv 4) pe_int (nomark _)))))))) (pss_one ps_never) pss_nil)
      (pss_one (ps_ret (pv 3))))), ?_⟩
    refine ⟨lv, rfl, lv, d, H, rfl, Same.refl _, hd, hf, fun v' G' H1 hE hd' => ?_⟩
    rw [hx] at hd'
    have hd1 := hd'.same hE.gh
    obtain ⟨b, rfl, hL⟩ := hd1.tupI_inv
    refine ⟨.ref b, rfl, .ref b, .ty "tuple", .type "tuple", .type "tuple", true, rfl, .ty _, tyx_tup hL, kit_tup_tup, true, rfl, iteF ?_⟩
    refine ⟨.ref b, rfl, b, _, rfl, .inr hL, .ref a, rfl, .int side, rfl, a, _, _, .int ((wb.size side : Nat) : Int), rfl, rfl, same_seqT hE.hh hT, web_at (H := H) (K := K) (a := a) hs, _, _, rfl, rfl, _, rfl, ite2 (fun z => ?_) (fun z => ?_)⟩
    · exfalso
      rw [List.length_map, hll] at z
      simp at z
    · refine ⟨.ref b, rfl, b, rfl, ⟨_, hL⟩, fun D hD => lc_filt (walk_tup (xs := ls.map V.int)) (fun i => some (.bl true)) (by rw [List.length_map]; omega) hD (fun H' s => same_seqT s hL) ?_ ?_⟩
      · intro i x H2 H2' hi s1 hD1 hY R1 R0 g1 g0
        obtain ⟨rfl, hx⟩ := hY
        have hi' : i < ls.length := by rw [List.length_map] at hi; exact hi
        have ex : x = .int ls[i] := by
          rw [List.getElem?_map, List.getElem?_eq_getElem hi'] at hx
          exact (Option.some.inj hx).symm
        subst ex
        refine ⟨rfl, .int ls[i], rfl, _, rfl, true, rfl, iteT ⟨.int ls[i], rfl, ls[i], 0, rfl, rfl, ?_⟩⟩
        exact g1 _ _ (congrArg (fun b => some (V.bl b)) (decide_eq_true (h0 _ (List.getElem_mem hi'))).symm) (Same.refl _)
      · intro H2 s1 hD1
        refine ⟨D, (List.range (ls.map V.int).length).map fun _ => true, rfl, (by rw [← fm_bl]; exact SqL.of hD1), ?_⟩
        rw [all_rg, all_true]
        refine ⟨true, rfl, iteF ?_⟩
        exact ⟨.ref b, rfl, q _ _ (hE.hh.trans s1) (hd1.same s1)⟩
def sp_many (K : PySem.W.Frag) (c : Int → Int → Bool) : Sp := fun vs H Q _ => ∃ (v lv : V) (d dl : PyData) (wb : Web) (side : Nat) (ls : List Int), vs = [v, .int side, lv] ∧ Dp K H v d ∧ fit 4 d = true ∧ tupX 4 d = encW wb ∧ okWeb wb = true ∧ Small wb ∧ side ≤ 1 ∧ okRows wb side = true ∧
  Dp K H lv dl ∧ fit 4 dl = true ∧ tupX 4 dl = tupD ls ∧ ls.length = wb.size side ∧ (∀ x ∈ ls, 0 ≤ x) ∧ ∀ H', Same H H' → Q (.int (manyC c wb side ls : Nat)) H'
/-! ### many_below -/
abbrev st_below : Stmt := topS 32
abbrev N_below : List Str := ["web", "side", "limits", "own", "half", "most", "row", "near", "far"]
abbrev scB_below : Scope := { kind := .function, names := [(".0", .local), ("row", .local), ("all", .globalImplicit), ("zip", .globalImplicit), ("most", .cell)], isGenerator := false, isCoroutine := false }
theorem sc_below : FnScope N_below ["web", "side", "limits"] (defScope st_below) := ⟨rfl, rfl, rfl, by decide +kernel, rfl, by decide +kernel, by decide +kernel⟩
theorem kb_below (f : Addr) (fd : FuncData) (F : Fun K "many_below" "many_below" st_below f fd) : KBinds K fd psL ksL gK gK := by
  obtain ⟨oc, od, kV, doc, pm, an, cdv, ct, osl, rfl, lk, hcd⟩ := F.ex
  refine ⟨fun s us ws hin hl => ?_, gK_rel⟩
  match us, ws, hl with
  | [], [a, b, c], _ => exact .of_eq rfl
theorem ok_below (S : Src K mg "many_below" st_below ["web", "side", "limits"]) (B : Blt mg) (C1 : Cal P w K mg base 6 "sure_web" ["web"] (sp_sure_web K)) (C2 : Cal P w K mg base 3 "sure_side" ["side"] sp_sure_side) (C3 : Cal P w K mg base 6 "rows_in" ["web", "side"] (sp_rows K)) (C4 : Cal P w K mg base 5 "sure_limits" ["web", "side", "limits"] (sp_lim K)) : KCal P w K mg base 7 "many_below" (sp_many K leB) := by
  refine S.kcal kb_below sc_below (fun vs H Q E h => ?_) (fun f cdv A outer s H vs Q E hr h => ?_)
  · obtain ⟨v, lv, d, dl, wb, side, ls, rfl, _⟩ := h
    rfl
  · obtain ⟨v, lv, d, dl, wb, side, ls, rfl, hd, hf, hx, hok, hsm, hs, hro, hdl, hfl, hxl, hll, h0, q⟩ := h
    have hk3 : wb.size side ≤ 3 := size_le hsm
    refine ⟨_, pss_cons (ps_par (i := 3) (j := 4) rfl sc_below.nd rfl rfl (by decide) rfl rfl (pa_cons (pe_cal C1 hr (by rfl) (pa_cons (pv 0) pa_nil)) (pa_cons (pe_cal C2 (hr.mono (by decide)) (by rfl) (pa_cons (pv 1) pa_nil)) pa_nil)) (by rfl))
      (pss_cons (ps_set (i := 5) sc_below.nd rfl (.inr rfl) (pe_cal C4 (hr.mono (by decide)) (by rfl) (pa_cons (pv 3) (pa_cons (pv 4) (pa_cons (pv 2) pa_nil)))))
      (pss_one (ps_ret (pe_len B (pe_lc (own := [("row", 6)]) (g := gName 6) rfl sc_below.nd (pi_list (pe_cal C3 hr (by rfl) (pa_cons (pv 3) (pa_cons (pv 4) pa_nil)))) (blkOk_by (own := [("row", 6)]) (N := N_below) (sc := defScope st_below) (by decide +kernel))
          (fun _ _ _ _ _ => pg_name (i := 6) sc_below.nd rfl (Or.inl rfl))
          (fun _ _ _ _ _ => pts_one (pt_val (pe_callB (allL K rfl) (by rfl) B.all boot_all (pa_cons
            (pe_lc (own := [("near", 7), ("far", 8)]) (g := gTupK K 2 (gCons (gName 7) (gCons (gName 8) gNil))) rfl sc_below.nd (zipA K (by rfl) B.zip (pa_cons (pv 6) (pa_cons (pv 5) pa_nil))) (blkOk_by (own := [("near", 7), ("far", 8)]) (N := N_below) (sc := scB_below) (by decide +kernel))
              (fun _ _ _ _ _ => pgT K rfl (pgs_cons (pg_name (i := 7) sc_below.nd rfl (Or.inl rfl)) (pgs_cons (pg_name (i := 8) sc_below.nd rfl (Or.inl rfl)) pgs_nil)))
              (fun _ _ _ _ _ => pts_nil)
              (fun _ _ _ _ _ => pe_cmpR op_le (pv 7) (pv 8) (nomark _))) pa_nil))))
          (fun _ _ _ _ _ => pv 6)))))), ?_⟩
    refine ⟨v, rfl, v, d, wb, H, rfl, Same.refl _, hd, hf, hx, hok, hsm, fun v' G' H1 hE hd' => ?_⟩
    refine ⟨.int side, rfl, side, rfl, hs, _, _, rfl, ?_⟩
    have hd1 := hd'.same hE.gh
    refine ⟨v', rfl, .int side, rfl, lv, rfl, v', lv, wb, side, dl, ls, rfl, hd1, hs, hsm, hdl.same hE.hh, hfl, hxl, hll, h0, fun lv' H2 s2 hL => ?_⟩
    obtain ⟨lb, rfl, hLT⟩ := hL.tupI_inv
    refine ⟨v', rfl, .int side, rfl, v', wb, side, rfl, hd1.same s2, hs, okWeb_bd hok, hsm, hro, fun p H3 us s3 hp hA => ?_⟩
    have hul : us.length = (rows wb side).length := by rw [hA.len, List.length_map]
    have hr2 := rows_len hro
    have hLT3 := same_seqT s3 hLT
    refine ⟨p, rfl, ⟨_, SqL.of hp⟩, fun D hD => lc_filt (walk_list (xs := us)) (fun i => (us.zip (rows wb side))[i]?.bind fun z => if cmpAll leB z.2 ls = true then some z.1 else none) (by omega) hD (fun H' s => SqL.of (s _ _ hp)) ?_ ?_⟩
    · intro i x H4 H4' hi s4 hD1 hY R1 R0 g1 g0
      obtain ⟨rfl, hx⟩ := hY
      obtain ⟨e, he1, he2⟩ := (hA.same s4).back hx
      have hi2 : i < (rows wb side).length := by omega
      rw [List.getElem?_map, List.getElem?_eq_getElem hi2] at he1
      have e2 := Option.some.inj he1
      subst e2
      obtain ⟨rb, rfl, hR⟩ := he2.tupI_inv
      have ez : (us.zip (rows wb side))[i]? = some (.ref rb, (rows wb side)[i]) := by
        rw [List.getElem?_zip_eq_some]
        exact ⟨hx, List.getElem?_eq_getElem hi2⟩
      rw [ez] at g1 g0
      generalize (rows wb side)[i] = r at g1 g0 hR
      refine ⟨rfl, .ref rb, rfl, .ref lb, rfl, rb, lb, _, _, rfl, .inr ⟨hR, same_seqT s4 hLT3, fun D2 hD2 => lc_filt (walk_zipT (n := (r.zip ls).length) (xs := r.map V.int) (ys := ls.map V.int) (by rw [List.length_zip, List.length_map, List.length_map])) (fun j => (r.zip ls)[j]?.bind fun z => some (V.bl (leB z.1 z.2))) (by rw [List.length_zip]; omega) hD2 (fun H' s => ⟨same_seqT s hR, same_seqT s (same_seqT s4 hLT3)⟩) ?_ ?_⟩⟩
      · intro j y H5 H5' hj s5 hD3 hY R1' R0' g1' g0'
        obtain ⟨T, y1, y2, rfl, hT, rfl, ey, ez⟩ := hY
        have hj1 : j < r.length := by rw [List.length_zip] at hj; omega
        have hj2 : j < ls.length := by rw [List.length_zip] at hj; omega
        replace ey : (r.map V.int)[j]? = some y1 := ey
        replace ez : (ls.map V.int)[j]? = some y2 := ez
        rw [List.getElem?_map, List.getElem?_eq_getElem hj1] at ey
        rw [List.getElem?_map, List.getElem?_eq_getElem hj2] at ez
        have ey' := Option.some.inj ey
        have ez' := Option.some.inj ez
        subst ey' ez'
        have ew : (r.zip ls)[j]? = some (r[j], ls[j]) := by
          rw [List.getElem?_zip_eq_some]
          exact ⟨List.getElem?_eq_getElem hj1, List.getElem?_eq_getElem hj2⟩
        rw [ew] at g1'
        exact ⟨T, _, rfl, st_new, rfl, _, _, rfl, _, _, rfl, rfl, rfl, .int r[j], rfl, .int ls[j], rfl, _, _, rfl, rfl, g1' _ _ rfl (same_new hT _)⟩
      · intro H5 s5 hD3
        rw [fm_map] at hD3
        have e7 : ((r.zip ls).map fun z => V.bl (leB z.1 z.2)) = ((r.zip ls).map fun z => leB z.1 z.2).map V.bl := by rw [List.map_map]; rfl
        rw [e7] at hD3
        refine ⟨D2, _, rfl, SqL.of hD3, _, rfl, ?_⟩
        have e8 : ((r.zip ls).map fun z => leB z.1 z.2).all id = cmpAll leB r ls := by
          rw [List.all_map]
          rfl
        rw [e8]
        refine ite2 (fun z => ?_) (fun z => ?_)
        · exact ⟨_, rfl, g1 _ _ (by show (if cmpAll leB r ls = true then some (V.ref rb) else none) = _; rw [if_pos z]) s5⟩
        · exact g0 (by show (if cmpAll leB r ls = true then some (V.ref rb) else none) = _; rw [if_neg z]) _ s5
    · intro H4 s4 hD1
      have hzl : (us.zip (rows wb side)).length = us.length := by rw [List.length_zip, hul, Nat.min_self]
      rw [← hzl, fm_if (us.zip (rows wb side)) (fun z => cmpAll leB z.2 ls) (fun z => z.1)] at hD1
      refine ⟨D, _, rfl, .inl (SqL.of hD1), ?_⟩
      rw [filt_len (fun r => cmpAll leB r ls) us (rows wb side) hul]
      exact q H4 (((hE.hh.trans s2).trans s3).trans s4)
/-! ### many_above -/
abbrev st_above : Stmt := topS 33
abbrev N_above : List Str := ["web", "side", "limits", "own", "half", "least", "row", "near", "far"]
abbrev scB_above : Scope := { kind := .function, names := [(".0", .local), ("row", .local), ("all", .globalImplicit), ("zip", .globalImplicit), ("least", .cell)], isGenerator := false, isCoroutine := false }
theorem sc_above : FnScope N_above ["web", "side", "limits"] (defScope st_above) := ⟨rfl, rfl, rfl, by decide +kernel, rfl, by decide +kernel, by decide +kernel⟩
theorem kb_above (f : Addr) (fd : FuncData) (F : Fun K "many_above" "many_above" st_above f fd) : KBinds K fd psL ksL gK gK := by
  obtain ⟨oc, od, kV, doc, pm, an, cdv, ct, osl, rfl, lk, hcd⟩ := F.ex
  refine ⟨fun s us ws hin hl => ?_, gK_rel⟩
  match us, ws, hl with
  | [], [a, b, c], _ => exact .of_eq rfl
theorem ok_above (S : Src K mg "many_above" st_above ["web", "side", "limits"]) (B : Blt mg) (C1 : Cal P w K mg base 6 "sure_web" ["web"] (sp_sure_web K)) (C2 : Cal P w K mg base 3 "sure_side" ["side"] sp_sure_side) (C3 : Cal P w K mg base 6 "rows_in" ["web", "side"] (sp_rows K)) (C4 : Cal P w K mg base 5 "sure_limits" ["web", "side", "limits"] (sp_lim K)) : KCal P w K mg base 7 "many_above" (sp_many K geB) := by
  refine S.kcal kb_above sc_above (fun vs H Q E h => ?_) (fun f cdv A outer s H vs Q E hr h => ?_)
  · obtain ⟨v, lv, d, dl, wb, side, ls, rfl, _⟩ := h
    rfl
  · obtain ⟨v, lv, d, dl, wb, side, ls, rfl, hd, hf, hx, hok, hsm, hs, hro, hdl, hfl, hxl, hll, h0, q⟩ := h
    have hk3 : wb.size side ≤ 3 := size_le hsm
    refine ⟨_, pss_cons (ps_par (i := 3) (j := 4) rfl sc_above.nd rfl rfl (by decide) rfl rfl (pa_cons (pe_cal C1 hr (by rfl) (pa_cons (pv 0) pa_nil)) (pa_cons (pe_cal C2 (hr.mono (by decide)) (by rfl) (pa_cons (pv 1) pa_nil)) pa_nil)) (by rfl))
      (pss_cons (ps_set (i := 5) sc_above.nd rfl (.inr rfl) (pe_cal C4 (hr.mono (by decide)) (by rfl) (pa_cons (pv 3) (pa_cons (pv 4) (pa_cons (pv 2) pa_nil)))))
      (pss_one (ps_ret (pe_len B (pe_lc (own := [("row", 6)]) (g := gName 6) rfl sc_above.nd (pi_list (pe_cal C3 hr (by rfl) (pa_cons (pv 3) (pa_cons (pv 4) pa_nil)))) (blkOk_by (own := [("row", 6)]) (N := N_above) (sc := defScope st_above) (by decide +kernel))
          (fun _ _ _ _ _ => pg_name (i := 6) sc_above.nd rfl (Or.inl rfl))
          (fun _ _ _ _ _ => pts_one (pt_val (pe_callB (allL K rfl) (by rfl) B.all boot_all (pa_cons
            (pe_lc (own := [("near", 7), ("far", 8)]) (g := gTupK K 2 (gCons (gName 7) (gCons (gName 8) gNil))) rfl sc_above.nd (zipA K (by rfl) B.zip (pa_cons (pv 6) (pa_cons (pv 5) pa_nil))) (blkOk_by (own := [("near", 7), ("far", 8)]) (N := N_above) (sc := scB_above) (by decide +kernel))
              (fun _ _ _ _ _ => pgT K rfl (pgs_cons (pg_name (i := 7) sc_above.nd rfl (Or.inl rfl)) (pgs_cons (pg_name (i := 8) sc_above.nd rfl (Or.inl rfl)) pgs_nil)))
              (fun _ _ _ _ _ => pts_nil)
              (fun _ _ _ _ _ => pe_cmpR op_ge (pv 7) (pv 8) (nomark _))) pa_nil))))
          (fun _ _ _ _ _ => pv 6)))))), ?_⟩
    refine ⟨v, rfl, v, d, wb, H, rfl, Same.refl _, hd, hf, hx, hok, hsm, fun v' G' H1 hE hd' => ?_⟩
    refine ⟨.int side, rfl, side, rfl, hs, _, _, rfl, ?_⟩
    have hd1 := hd'.same hE.gh
    refine ⟨v', rfl, .int side, rfl, lv, rfl, v', lv, wb, side, dl, ls, rfl, hd1, hs, hsm, hdl.same hE.hh, hfl, hxl, hll, h0, fun lv' H2 s2 hL => ?_⟩
    obtain ⟨lb, rfl, hLT⟩ := hL.tupI_inv
    refine ⟨v', rfl, .int side, rfl, v', wb, side, rfl, hd1.same s2, hs, okWeb_bd hok, hsm, hro, fun p H3 us s3 hp hA => ?_⟩
    have hul : us.length = (rows wb side).length := by rw [hA.len, List.length_map]
    have hr2 := rows_len hro
    have hLT3 := same_seqT s3 hLT
    refine ⟨p, rfl, ⟨_, SqL.of hp⟩, fun D hD => lc_filt (walk_list (xs := us)) (fun i => (us.zip (rows wb side))[i]?.bind fun z => if cmpAll geB z.2 ls = true then some z.1 else none) (by omega) hD (fun H' s => SqL.of (s _ _ hp)) ?_ ?_⟩
    · intro i x H4 H4' hi s4 hD1 hY R1 R0 g1 g0
      obtain ⟨rfl, hx⟩ := hY
      obtain ⟨e, he1, he2⟩ := (hA.same s4).back hx
      have hi2 : i < (rows wb side).length := by omega
      rw [List.getElem?_map, List.getElem?_eq_getElem hi2] at he1
      have e2 := Option.some.inj he1
      subst e2
      obtain ⟨rb, rfl, hR⟩ := he2.tupI_inv
      have ez : (us.zip (rows wb side))[i]? = some (.ref rb, (rows wb side)[i]) := by
        rw [List.getElem?_zip_eq_some]
        exact ⟨hx, List.getElem?_eq_getElem hi2⟩
      rw [ez] at g1 g0
      generalize (rows wb side)[i] = r at g1 g0 hR
      refine ⟨rfl, .ref rb, rfl, .ref lb, rfl, rb, lb, _, _, rfl, .inr ⟨hR, same_seqT s4 hLT3, fun D2 hD2 => lc_filt (walk_zipT (n := (r.zip ls).length) (xs := r.map V.int) (ys := ls.map V.int) (by rw [List.length_zip, List.length_map, List.length_map])) (fun j => (r.zip ls)[j]?.bind fun z => some (V.bl (geB z.1 z.2))) (by rw [List.length_zip]; omega) hD2 (fun H' s => ⟨same_seqT s hR, same_seqT s (same_seqT s4 hLT3)⟩) ?_ ?_⟩⟩
      · intro j y H5 H5' hj s5 hD3 hY R1' R0' g1' g0'
        obtain ⟨T, y1, y2, rfl, hT, rfl, ey, ez⟩ := hY
        have hj1 : j < r.length := by rw [List.length_zip] at hj; omega
        have hj2 : j < ls.length := by rw [List.length_zip] at hj; omega
        replace ey : (r.map V.int)[j]? = some y1 := ey
        replace ez : (ls.map V.int)[j]? = some y2 := ez
        rw [List.getElem?_map, List.getElem?_eq_getElem hj1] at ey
        rw [List.getElem?_map, List.getElem?_eq_getElem hj2] at ez
        have ey' := Option.some.inj ey
        have ez' := Option.some.inj ez
        subst ey' ez'
        have ew : (r.zip ls)[j]? = some (r[j], ls[j]) := by
          rw [List.getElem?_zip_eq_some]
          exact ⟨List.getElem?_eq_getElem hj1, List.getElem?_eq_getElem hj2⟩
        rw [ew] at g1'
        exact ⟨T, _, rfl, st_new, rfl, _, _, rfl, _, _, rfl, rfl, rfl, .int r[j], rfl, .int ls[j], rfl, _, _, rfl, rfl, g1' _ _ rfl (same_new hT _)⟩
      · intro H5 s5 hD3
        rw [fm_map] at hD3
        have e7 : ((r.zip ls).map fun z => V.bl (geB z.1 z.2)) = ((r.zip ls).map fun z => geB z.1 z.2).map V.bl := by rw [List.map_map]; rfl
        rw [e7] at hD3
        refine ⟨D2, _, rfl, SqL.of hD3, _, rfl, ?_⟩
        have e8 : ((r.zip ls).map fun z => geB z.1 z.2).all id = cmpAll geB r ls := by
          rw [List.all_map]
          rfl
        rw [e8]
        refine ite2 (fun z => ?_) (fun z => ?_)
        · exact ⟨_, rfl, g1 _ _ (by show (if cmpAll geB r ls = true then some (V.ref rb) else none) = _; rw [if_pos z]) s5⟩
        · exact g0 (by show (if cmpAll geB r ls = true then some (V.ref rb) else none) = _; rw [if_neg z]) _ s5
    · intro H4 s4 hD1
      have hzl : (us.zip (rows wb side)).length = us.length := by rw [List.length_zip, hul, Nat.min_self]
      rw [← hzl, fm_if (us.zip (rows wb side)) (fun z => cmpAll geB z.2 ls) (fun z => z.1)] at hD1
      refine ⟨D, _, rfl, .inl (SqL.of hD1), ?_⟩
      rw [filt_len (fun r => cmpAll geB r ls) us (rows wb side) hul]
      exact q H4 (((hE.hh.trans s2).trans s3).trans s4)
end
end Hk

set_option Elab.async false
set_option linter.all false
set_option maxRecDepth 100000
set_option maxHeartbeats 4000000
namespace Hk
open PySem PySem.Spec PyProof.Rows L2 Hm
/-- the list that numbers are drawn from -/
def Tin (H : Hp) (p : Addr) (c : Nat) : Prop := ∃ a b k : Int, H p = some (.lst [.int a, .int b, .int k]) ∧ 0 ≤ k ∧ k ≤ (c : Int)
theorem Tin.same {H H' : Hp} {p : Addr} {c : Nat} (h : Tin H p c) (s : Same H H') : Tin H' p c := by
  obtain ⟨a, b, k, h1, h2⟩ := h
  exact ⟨a, b, k, s _ _ h1, h2⟩
theorem Tin.ne {H : Hp} {p : Addr} {c : Nat} (h : Tin H p c) : H p ≠ none := by
  obtain ⟨a, b, k, h1, h2⟩ := h
  exact some_ne h1
theorem bl01 : ∀ k : Bool, (-(2 ^ 64) < (if k = true then (1 : Int) else 0)) ∧ ((if k = true then (1 : Int) else 0) < 2 ^ 64) := by decide
theorem mod_nat (x : Int) {b : Int} (hb : 0 < b) : ∃ r : Nat, x % b = (r : Int) ∧ (r : Int) < b :=
  ⟨(x % b).toNat, (Int.toNat_of_nonneg (Int.emod_nonneg x (by omega))).symm, by rw [Int.toNat_of_nonneg (Int.emod_nonneg x (by omega))]; exact Int.emod_lt_of_pos x hb⟩
section
variable {P : Program} {w : World} {K : PySem.W.Frag} {mg : Str → Option Value} {base : Heap}
/-! ### _law_box -/
abbrev st_box : Stmt := topS 35
theorem sc_box : FnScope ["_law_script", "_law_k", "_law_bit_so"] ["_law_script", "_law_k"] (defScope st_box) := ⟨rfl, rfl, rfl, by decide +kernel, rfl, by decide +kernel, by decide +kernel⟩
def sp_box (K : PySem.W.Frag) : Sp := fun vs H Q _ => ∃ (a : Addr) (ns : List Int), vs = [.ref a, .int 0] ∧ SqL K H a (ns.map V.int) ∧ ns ≠ [] ∧ ∀ p x y, H p = none → Q (.ref p) (upd H p (.lst [.int x, .int y, .int 0]))
theorem ok_box (S : Src K mg "_law_box" st_box ["_law_script", "_law_k"]) (B : Blt mg) : Cal P w K mg base 1 "_law_box" ["_law_script", "_law_k"] (sp_box K) := by
  refine S.cal sc_box (fun vs H Q E h => ?_) (fun f cdv A outer s H vs Q E hr h => ?_)
  · obtain ⟨a, ns, rfl, _⟩ := h
    rfl
  · obtain ⟨a, ns, rfl, hL, hne, q⟩ := h
    refine ⟨_, pss_cons (ps_set (i := 2) sc_box.nd rfl (.inl rfl) (pe_ifExp (pt_cmp (pc_lt (pv 1) (pe_len B (pv 0)))) (pe_ix (ixL K) (pv 0) (pv 1) (fun _ _ => rfl)) pe_int))
      (pss_one (ps_ret (pe_lst (pa_cons (pe_op op_mul (pe_callB call_abs (by rfl) B.abs boot_abs (pa_cons (pv 2) pa_nil)) (pe_callTy call_int1 (by rfl) B.int PyProof.Rows.boot_int (pa_cons (pe_cmpR op_ge (pe_callB call_abs (by rfl) B.abs boot_abs (pa_cons (pv 2) pa_nil)) (pe_op op_pow pe_int pe_int) (nomark _)) pa_nil)))
        (pa_cons (pe_op op_add (pe_op op_add (pe_op op_mod (pe_callTy call_int1 (by rfl) B.int PyProof.Rows.boot_int (pa_cons (pv 2) pa_nil)) pe_int) (pe_op op_mul pe_int (pv 1))) pe_int) (pa_cons pe_int pa_nil)))))), ?_⟩
    have hpos : 0 < ns.length := List.length_pos_iff.mpr hne
    refine ⟨.int 0, rfl, .ref a, rfl, a, _, rfl, .inl hL, _, _, rfl, rfl, _, rfl, ite2 (fun z => ?_) (fun z => ?_)⟩
    · refine ⟨.ref a, rfl, .int 0, rfl, a, _, _, .int (ns.getD 0 0), rfl, rfl, hL, at_ints hpos, ?_⟩
      refine ⟨.int _, rfl, _, rfl, .int _, rfl, _, rfl, 10, 18, rfl, rfl, ⟨by decide, by decide, by decide⟩, _, _, rfl, rfl, .inr ⟨_, rfl, _, _, rfl, rfl, .inr ?_, ?_⟩⟩
      · exact bl01 _
      · refine ⟨.int _, rfl, .inl ⟨_, rfl, _, _, rfl, rfl, by show (0 : Int) < _; decide, .int 0, rfl, _, _, rfl, rfl, .inl ⟨by decide, by decide⟩, _, _, rfl, rfl, _, _, rfl, rfl, ?_⟩⟩
        exact ⟨by show 3 ≤ sizeLine; decide, fun p hp => q p _ _ hp⟩
    · exfalso
      exact z (decide_eq_true (show (0 : Int) < (((ns.map V.int).length : Nat) : Int) by rw [List.length_map]; omega))
/-! ### _law_take -/
abbrev st_take : Stmt := topS 36
abbrev N_take : List Str := ["_law_tin", "_law_below_so", "_law_drawn", "_law_once_so", "_law_wide_so", "_law_twice_so"]
theorem sc_take : FnScope N_take ["_law_tin", "_law_below_so"] (defScope st_take) := ⟨rfl, rfl, rfl, by decide +kernel, rfl, by decide +kernel, by decide +kernel⟩
def sp_take : Sp := fun vs H Q _ => ∃ (p : Addr) (b : Int) (c : Nat), vs = [.ref p, .int b] ∧ Tin H p c ∧ 0 < b ∧ b < 1073741824 ∧ c ≤ 1000 ∧ ∀ (r : Nat) z, (r : Int) < b → Tin (upd H p z) p (c + 1) → Q (.int (r : Int)) (upd H p z)
theorem ok_take (S : Src K mg "_law_take" st_take ["_law_tin", "_law_below_so"]) (B : Blt mg) : Cal P w K mg base 1 "_law_take" ["_law_tin", "_law_below_so"] sp_take := by
  refine S.cal sc_take (fun vs H Q E h => ?_) (fun f cdv A outer s H vs Q E hr h => ?_)
  · obtain ⟨p, b, c, rfl, _⟩ := h
    rfl
  · obtain ⟨p, b, c, rfl, ⟨x0, x1, k, hp, hk0, hkc⟩, hb0, hb1, hc, q⟩ := h
    refine ⟨_, pss_cons (ps_if (pt_cmp (pc_gt (pe_ix (ixL K) (pv 0) pe_int (fun _ _ => rfl)) pe_int))
        (pss_cons (ps_set (i := 2) sc_take.nd rfl (.inl rfl) (pe_op op_mod (pe_callTy call_int1 (by rfl) B.int PyProof.Rows.boot_int (pa_cons (pe_ix (ixL K) (pv 0) pe_int (fun _ _ => rfl)) pa_nil)) (pv 1)))
        (pss_cons (ps_asg (pe_op op_fdiv (pe_ix (ixL K) (pv 0) pe_int (fun _ _ => rfl)) (pv 1)) (pg_sub (pv 0) pe_int set_list))
        (pss_one (ps_ret (pv 2))))) pss_nil)
      (pss_cons (ps_asg (pe_op op_add (pe_ix (ixL K) (pv 0) pe_int (fun _ _ => rfl)) pe_int) (pg_sub (pv 0) pe_int set_list))
      (pss_cons (ps_set (i := 3) sc_take.nd rfl (.inl rfl) (pe_op op_mod (pe_callTy call_int1 (by rfl) B.int PyProof.Rows.boot_int (pa_cons (pe_op op_mul (pe_op op_add (pe_ix (ixL K) (pv 0) pe_int (fun _ _ => rfl)) (pe_op op_mul pe_int (pe_ix (ixL K) (pv 0) pe_int (fun _ _ => rfl)))) (pe_op op_add pe_int (pe_ix (ixL K) (pv 0) pe_int (fun _ _ => rfl)))) pa_nil)) pe_int))
      (pss_cons (ps_set (i := 4) sc_take.nd rfl (.inl rfl) (pe_op op_add (pe_op op_mod (pe_callTy call_int1 (by rfl) B.int PyProof.Rows.boot_int (pa_cons (pv 3) pa_nil)) pe_int) pe_int))
      (pss_cons (ps_set (i := 5) sc_take.nd rfl (.inl rfl) (pe_op op_mod (pe_callTy call_int1 (by rfl) B.int PyProof.Rows.boot_int (pa_cons (pe_op op_mul (pe_op op_add (pe_op op_add (pv 3) (pe_ix (ixL K) (pv 0) pe_int (fun _ _ => rfl))) (pe_op op_fdiv (pe_ix (ixL K) (pv 0) pe_int (fun _ _ => rfl)) pe_int)) (pv 4)) pa_nil)) pe_int))
      (pss_one (ps_ret (pe_op op_mod (pe_callTy call_int1 (by rfl) B.int PyProof.Rows.boot_int (pa_cons (pe_op op_fdiv (pe_op op_mod (pe_callTy call_int1 (by rfl) B.int PyProof.Rows.boot_int (pa_cons (pe_op op_add (pe_op op_mul (pv 5) pe_int) (pv 3)) pa_nil)) pe_int) pe_int) pa_nil)) (pv 1)))))))), ?_⟩
    have hL := SqL.of (K := K) hp
    refine ⟨.ref p, rfl, p, _, _, .int x0, rfl, rfl, hL, atI_nat (j := 0) rfl, _, _, rfl, rfl, _, rfl, ite2 (fun z => ?_) (fun z => ?_)⟩
    · obtain ⟨r, e1, e2⟩ := mod_nat x0 hb0
      refine ⟨.ref p, rfl, p, _, _, .int x0, rfl, rfl, hL, atI_nat (j := 0) rfl, .inl ⟨_, rfl, .int b, rfl, _, _, rfl, rfl, hb0, ?_⟩⟩
      refine ⟨.ref p, rfl, p, _, _, .int x0, rfl, rfl, hL, atI_nat (j := 0) rfl, .int b, rfl, _, _, rfl, rfl, ⟨hb0, hb1⟩, .ref p, rfl, p, _, _, 0, rfl, rfl, hp, rfl, ?_⟩
      refine ⟨.int (x0 % b), rfl, ?_⟩
      rw [e1]
      exact q r _ e2 ⟨_, _, k, upd_same, hk0, by omega⟩
    · refine ⟨.ref p, rfl, p, _, _, .int k, rfl, rfl, hL, atI_nat (j := 2) rfl, k, 1, rfl, rfl, .ref p, rfl, p, _, _, 2, rfl, rfl, hp, rfl, ?_⟩
      have hp2 : SqL K (upd H p (.lst [.int x0, .int x1, .int (k + 1)])) p [.int x0, .int x1, .int (k + 1)] := SqL.of upd_same
      show tSeq _ _ _ _ (upd H p (.lst [.int x0, .int x1, .int (k + 1)]))
      generalize hH : upd H p (.lst [.int x0, .int x1, .int (k + 1)]) = H2 at hp2 ⊢
      have hk : 0 ≤ k + 1 ∧ k + 1 ≤ ((c + 1 : Nat) : Int) := ⟨by omega, by omega⟩
      have hk1 : k + 1 ≤ 1001 := by omega
      refine ⟨.ref p, rfl, p, _, _, .int x1, rfl, rfl, hp2, atI_nat (j := 1) rfl, .ref p, rfl, p, _, _, .int (k + 1), rfl, rfl, hp2, atI_nat (j := 2) rfl, _, _, rfl, rfl, .inl ⟨by decide, by decide⟩, _, _, rfl, rfl, .ref p, rfl, p, _, _, .int (k + 1), rfl, rfl, hp2, atI_nat (j := 2) rfl, _, _, rfl, rfl, _, _, rfl, rfl, .inr ⟨by omega, by omega⟩, .inl ⟨_, rfl, _, _, rfl, rfl, by show (0 : Int) < _; decide, ?_⟩⟩
      refine ⟨.int _, rfl, .inl ⟨_, rfl, _, _, rfl, rfl, by show (0 : Int) < _; decide, _, _, rfl, rfl, ?_⟩⟩
      refine ⟨.int _, rfl, .ref p, rfl, p, _, _, .int (k + 1), rfl, rfl, hp2, atI_nat (j := 2) rfl, _, _, rfl, rfl, .ref p, rfl, p, _, _, .int x1, rfl, rfl, hp2, atI_nat (j := 1) rfl, _, _, rfl, rfl, ⟨by decide, by decide⟩, _, _, rfl, rfl, .int _, rfl, _, _, rfl, rfl, .inr ?_, .inl ⟨_, rfl, _, _, rfl, rfl, by show (0 : Int) < _; decide, ?_⟩⟩
      · have h1 := fun y : Int => Int.emod_nonneg y (show (40009 : Int) ≠ 0 by decide)
        have h2 := fun y : Int => Int.emod_lt_of_pos y (show (0 : Int) < 40009 by decide)
        exact ⟨Int.lt_of_lt_of_le (by decide) (Int.add_nonneg (h1 _) (by decide)), Int.lt_trans (Int.add_lt_add_right (h2 _) 7) (by decide)⟩
      · refine ⟨.int _, rfl, _, _, rfl, rfl, .inr ⟨by decide, by decide⟩, .int _, rfl, _, _, rfl, rfl, .inl ⟨_, rfl, _, _, rfl, rfl, by show (0 : Int) < _; decide, _, _, rfl, rfl, ⟨by decide, by decide⟩, .inl ⟨_, rfl, .int b, rfl, _, _, rfl, rfl, hb0, ?_⟩⟩⟩
        rw [← hH]
        obtain ⟨r, e1, e2⟩ := mod_nat ((((x1 + 48271 * (k + 1)) * (39373 + (k + 1)) % 2147483647 + (k + 1) + x1 / 1000003) * ((x1 + 48271 * (k + 1)) * (39373 + (k + 1)) % 2147483647 % 40009 + 7) % 2147483629 * 48271 + (x1 + 48271 * (k + 1)) * (39373 + (k + 1)) % 2147483647) % 2147483587 / 64) hb0
        show Q (.int (((((x1 + 48271 * (k + 1)) * (39373 + (k + 1)) % 2147483647 + (k + 1) + x1 / 1000003) * ((x1 + 48271 * (k + 1)) * (39373 + (k + 1)) % 2147483647 % 40009 + 7) % 2147483629 * 48271 + (x1 + 48271 * (k + 1)) * (39373 + (k + 1)) % 2147483647) % 2147483587 / 64) % b)) _
        rw [e1]
        exact q r _ e2 ⟨_, _, k + 1, upd_same, hk.1, hk.2⟩
/-! ### _law_cells -/
abbrev st_cells : Stmt := topS 37
abbrev N_cells : List Str := ["_law_script", "_law_most_so", "_law_cells_so", "_law_k", "_law_bit_so", "_law_at_so"]
theorem sc_cells : FnScope N_cells ["_law_script", "_law_most_so"] (defScope st_cells) := ⟨rfl, rfl, rfl, by decide +kernel, rfl, by decide +kernel, by decide +kernel⟩
def sp_cells (K : PySem.W.Frag) : Sp := fun vs H Q _ => ∃ (a : Addr) (ns : List Int), vs = [.ref a, .int 1] ∧ SqL K H a (ns.map V.int) ∧ ns.length ≤ 63 ∧ ∀ p ms H', Same H H' → H' p = some (.lst (ms.map V.int)) → ms ≠ [] → Q (.ref p) H'
theorem cut_ints (ns : List Int) (lo hi : Option Int) : ∃ ms : List Int, cutV (ns.map V.int) lo hi = ms.map V.int ∧ ms.length ≤ ns.length := by
  refine ⟨(ns.drop (HT.sIx ns.length 0 lo)).take (HT.sIx ns.length ns.length hi - HT.sIx ns.length 0 lo), ?_, ?_⟩
  · unfold cutV
    rw [List.length_map, List.map_take, List.map_drop]
  · rw [List.length_take, List.length_drop]
    omega
theorem ok_cells (S : Src K mg "_law_cells" st_cells ["_law_script", "_law_most_so"]) (B : Blt mg) : Cal P w K mg base 1 "_law_cells" ["_law_script", "_law_most_so"] (sp_cells K) := by
  refine S.cal sc_cells (fun vs H Q E h => ?_) (fun f cdv A outer s H vs Q E hr h => ?_)
  · obtain ⟨a, ns, rfl, _⟩ := h
    rfl
  · obtain ⟨a, ns, rfl, hL, hl, q⟩ := h
    refine ⟨_, pss_cons (ps_set (i := 2) sc_cells.nd rfl (.inl rfl) (pe_orT (pe_callTy call_list_of (by rfl) B.list boot_list (pa_cons (pe_slice sl_list (pv 0) po_none (po_some (pv 1))) pa_nil)) (pe_one (pe_lst (pa_cons pe_int pa_nil)))))
      (pss_cons (ps_for PassesOwn.never rfl (pi_enum (by rfl) B.enumerate (pa_cons (pe_slice sl_list (pv 0) (po_some (pv 1)) (po_some pe_int)) pa_nil)) (pgT K rfl (pgs_cons (pg_name (i := 3) sc_cells.nd rfl (Or.inl rfl)) (pgs_cons (pg_name (i := 4) sc_cells.nd rfl (Or.inl rfl)) pgs_nil)))
        (pss_cons (ps_set (i := 5) sc_cells.nd rfl (.inl rfl) (pe_op op_mod (pe_callTy call_int1 (by rfl) B.int PyProof.Rows.boot_int (pa_cons (pv 3) pa_nil)) (pv 1)))
        (pss_one (ps_asg (pe_op op_add (pe_ix (ixL K) (pv 2) (pv 5) (fun _ _ => rfl)) (pe_op op_mul (pv 4) (pe_op op_add (pv 3) pe_int))) (pg_sub (pv 2) (pv 5) set_list)))))
      (pss_one (ps_ret (pv 2)))), ?_⟩
    obtain ⟨m1, em1, hm1⟩ := cut_ints ns none (some 1)
    obtain ⟨m2, em2, hm2⟩ := cut_ints ns (some 1) (some 63)
    refine ⟨.ref a, rfl, .int 1, rfl, 1, rfl, a, _, rfl, hL, fun p hp => ?_⟩
    rw [em1]
    refine ⟨p, _, rfl, .inl sq_new, fun l hl => ⟨_, .inl ⟨_, SqL.of upd_same, rfl⟩, ?_⟩⟩
    have sA : Same H (upd (upd H p (.lst (m1.map V.int))) l (.lst (m1.map V.int))) := (same_new hp _).trans (same_new hl _)
    have hlH : H l = none := (same_new hp (.lst (m1.map V.int))).free hl
    have hc0 : (upd (upd H p (.lst (m1.map V.int))) l (.lst (m1.map V.int))) l = some (.lst (m1.map V.int)) := upd_same
    generalize (upd (upd H p (.lst (m1.map V.int))) l (.lst (m1.map V.int))) = H1 at sA hc0 ⊢
    cases m1 with
    | nil =>
      refine iteF ⟨by show 1 ≤ sizeLine; decide, fun c hc => ?_⟩
      have hS := sA.trans (same_new hc (.lst [.int 0]))
      have hcH : H c = none := sA.free hc
      have hc1 : (upd H1 c (.lst [.int 0])) c = some (.lst (([0] : List Int).map V.int)) := upd_same
      have hne : ([0] : List Int) ≠ [] := fun z => nomatch z
      generalize (upd H1 c (.lst [.int 0])) = H3 at hS hc1 ⊢
      generalize ([0] : List Int) = ms at hc1 hne
      refine ⟨.ref a, rfl, .int 1, rfl, 1, rfl, 63, rfl, a, _, rfl, hS.seq hL, fun e he => ?_⟩
      rw [em2]
      have nec : e ≠ c := fun z => by rw [z, hc1] at he; cases he
      refine ⟨e, _, rfl, sq_new, for_it (walk_enum (xs := m2.map V.int)) (fun i σ H4 => ∃ y3 y4 y5 ms', σ = [some (.ref a), some (.int 1), some (.ref c), y3, y4, y5] ∧ Same H H4 ∧ H4 e = some (.lst (m2.map V.int)) ∧ H4 c = some (.lst (ms'.map V.int)) ∧ ms' ≠ [])
        ⟨none, none, none, ms, rfl, hS.trans (same_new he _), upd_same, by rw [upd_ne nec.symm]; exact hc1, hne⟩ (fun i σ H4 _ p => ?_) (fun i x σ H4 H4' hi p hY => ?_) (fun σ H4 p => ?_)⟩
      · obtain ⟨_, _, _, _, _, _, h1, _⟩ := p
        exact SqL.of h1
      · obtain ⟨y3, y4, y5, ms', rfl, s4, he4, hc4, hne'⟩ := p
        obtain ⟨T, y, z, rfl, hT, rfl, ey, ez⟩ := hY
        have ey' := Option.some.inj ey
        subst ey'
        rw [List.length_map] at hi
        replace ez : (m2.map V.int)[i]? = some z := ez
        rw [List.getElem?_map, List.getElem?_eq_getElem hi] at ez
        have ez' := Option.some.inj ez
        subst ez'
        have nT := same_new hT (.tup [.int ((i : Nat) : Int), .int m2[i]])
        have hpos : 0 < ms'.length := List.length_pos_iff.mpr hne'
        refine ⟨T, _, rfl, st_new, rfl, _, _, rfl, _, _, rfl, rfl, ?_⟩
        refine ⟨.int (i : Int), rfl, .inl ⟨_, rfl, .int 1, rfl, _, _, rfl, rfl, by show (0 : Int) < _; decide, ?_⟩⟩
        have e0 : ((i : Nat) : Int) % 1 = 0 := Int.emod_one _
        show gName 5 (.int (((i : Nat) : Int) % 1)) _ _ _
        rw [e0]
        refine ⟨.ref c, rfl, .int 0, rfl, c, _, _, .int (ms'.getD 0 0), rfl, rfl, SqL.of (nT _ _ hc4), at_ints hpos, .int _, rfl, .int (i : Int), rfl, _, _, rfl, rfl, _, _, rfl, rfl, .inr ⟨by omega, by omega⟩, _, _, rfl, rfl, .ref c, rfl, .int 0, rfl, c, _, _, 0, rfl, rfl, nT _ _ hc4, ?_, ?_⟩
        · unfold ixN
          rw [if_pos (by decide), if_pos (by rw [List.length_map]; omega)]
          rfl
        · refine ⟨_, _, _, ms'.set 0 (ms'.getD 0 0 + m2[i] * ((i : Int) + 2)), rfl, same_mut (s4.trans nT) hcH, ?_, ?_, ?_⟩
          · rw [upd_ne nec]
            exact nT _ _ he4
          · rw [upd_same, List.map_set]
          · exact fun z => by
              have := congrArg List.length z
              rw [List.length_set] at this
              simp at this
              exact hne' this
      · obtain ⟨y3, y4, y5, ms', rfl, s4, he4, hc4, hne'⟩ := p
        exact ⟨.ref c, rfl, q c ms' H4 s4 hc4 hne'⟩
    | cons x0 r0 =>
      refine iteT ?_
      have hS := sA
      have hcH := hlH
      have hc1 := hc0
      have hne : x0 :: r0 ≠ [] := fun z => nomatch z
      generalize H1 = H3 at hS hc1 ⊢
      generalize x0 :: r0 = ms at hc1 hne
      generalize l = c at hcH hc1 ⊢
      refine ⟨.ref a, rfl, .int 1, rfl, 1, rfl, 63, rfl, a, _, rfl, hS.seq hL, fun e he => ?_⟩
      rw [em2]
      have nec : e ≠ c := fun z => by rw [z, hc1] at he; cases he
      refine ⟨e, _, rfl, sq_new, for_it (walk_enum (xs := m2.map V.int)) (fun i σ H4 => ∃ y3 y4 y5 ms', σ = [some (.ref a), some (.int 1), some (.ref c), y3, y4, y5] ∧ Same H H4 ∧ H4 e = some (.lst (m2.map V.int)) ∧ H4 c = some (.lst (ms'.map V.int)) ∧ ms' ≠ [])
        ⟨none, none, none, ms, rfl, hS.trans (same_new he _), upd_same, by rw [upd_ne nec.symm]; exact hc1, hne⟩ (fun i σ H4 _ p => ?_) (fun i x σ H4 H4' hi p hY => ?_) (fun σ H4 p => ?_)⟩
      · obtain ⟨_, _, _, _, _, _, h1, _⟩ := p
        exact SqL.of h1
      · obtain ⟨y3, y4, y5, ms', rfl, s4, he4, hc4, hne'⟩ := p
        obtain ⟨T, y, z, rfl, hT, rfl, ey, ez⟩ := hY
        have ey' := Option.some.inj ey
        subst ey'
        rw [List.length_map] at hi
        replace ez : (m2.map V.int)[i]? = some z := ez
        rw [List.getElem?_map, List.getElem?_eq_getElem hi] at ez
        have ez' := Option.some.inj ez
        subst ez'
        have nT := same_new hT (.tup [.int ((i : Nat) : Int), .int m2[i]])
        have hpos : 0 < ms'.length := List.length_pos_iff.mpr hne'
        refine ⟨T, _, rfl, st_new, rfl, _, _, rfl, _, _, rfl, rfl, ?_⟩
        refine ⟨.int (i : Int), rfl, .inl ⟨_, rfl, .int 1, rfl, _, _, rfl, rfl, by show (0 : Int) < _; decide, ?_⟩⟩
        have e0 : ((i : Nat) : Int) % 1 = 0 := Int.emod_one _
        show gName 5 (.int (((i : Nat) : Int) % 1)) _ _ _
        rw [e0]
        refine ⟨.ref c, rfl, .int 0, rfl, c, _, _, .int (ms'.getD 0 0), rfl, rfl, SqL.of (nT _ _ hc4), at_ints hpos, .int _, rfl, .int (i : Int), rfl, _, _, rfl, rfl, _, _, rfl, rfl, .inr ⟨by omega, by omega⟩, _, _, rfl, rfl, .ref c, rfl, .int 0, rfl, c, _, _, 0, rfl, rfl, nT _ _ hc4, ?_, ?_⟩
        · unfold ixN
          rw [if_pos (by decide), if_pos (by rw [List.length_map]; omega)]
          rfl
        · refine ⟨_, _, _, ms'.set 0 (ms'.getD 0 0 + m2[i] * ((i : Int) + 2)), rfl, same_mut (s4.trans nT) hcH, ?_, ?_, ?_⟩
          · rw [upd_ne nec]
            exact nT _ _ he4
          · rw [upd_same, List.map_set]
          · exact fun z => by
              have := congrArg List.length z
              rw [List.length_set] at this
              simp at this
              exact hne' this
      · obtain ⟨y3, y4, y5, ms', rfl, s4, he4, hc4, hne'⟩ := p
        exact ⟨.ref c, rfl, q c ms' H4 s4 hc4 hne'⟩
end
end Hk

set_option Elab.async false
set_option linter.all false
set_option maxRecDepth 100000
set_option maxHeartbeats 4000000
namespace Hk
open PySem PySem.Spec PyProof.Rows L2 Hm
theorem erase_perm {α : Type} : ∀ (l : List α) (i : Nat) (h : i < l.length), (l[i] :: l.eraseIdx i).Perm l
  | x :: r, 0, _ => List.Perm.refl _
  | x :: r, i + 1, h => by
    have h' : i < r.length := Nat.lt_of_succ_lt_succ h
    have ih := erase_perm r i h'
    show (r[i] :: x :: r.eraseIdx i).Perm (x :: r)
    exact (List.Perm.swap x r[i] (r.eraseIdx i)).trans (ih.cons x)
/-- tuples become lists -/
def lstX : Nat → PyData → PyData
  | n + 1, .list ds => .list (ds.map (lstX n))
  | n + 1, .tuple ds => .list (ds.map (lstX n))
  | _, d => d
section
variable {P : Program} {w : World} {K : PySem.W.Frag} {mg : Str → Option Value} {base : Heap}
/-! ### _law_lists -/
abbrev st_lists : Stmt := topS 40
abbrev N_lists : List Str := ["_law_matter", "_law_bit"]
theorem sc_lists : FnScope N_lists ["_law_matter"] (defScope st_lists) := ⟨rfl, rfl, rfl, by decide +kernel, rfl, by decide +kernel, by decide +kernel⟩
def sp_lists (K : PySem.W.Frag) (n : Nat) : Sp := fun vs H Q _ => ∃ (v : V) (d : PyData) (G : Hp), vs = [v] ∧ Same G H ∧ Dp K G v d ∧ fit n d = true ∧ ∀ v' G' H', Ext G H G' H' → Dp K G' v' (lstX n d) → Q v' H'
theorem ok_lists (S : Src K mg "_law_lists" st_lists ["_law_matter"]) (B : Blt mg) : ∀ n, Cal P w K mg base n "_law_lists" ["_law_matter"] (sp_lists K n)
  | 0 => (Cal.never S).imp fun vs H Q E h => by
    obtain ⟨v, d, G, _, _, _, hf, _⟩ := h
    cases d <;> cases hf
  | n + 1 => by
    have C := ok_lists S B n
    refine S.cal sc_lists (fun vs H Q E h => ?_) (fun f cdv A outer s H vs Q E hr h => ?_)
    · obtain ⟨v, d, G, rfl, _⟩ := h
      rfl
    · obtain ⟨v, d, G, rfl, hG, hd, hf, q⟩ := h
      have body : ∀ (xs : List V) (ds : List PyData), DpAll K G xs ds → (∀ d ∈ ds, fit n d = true) → ∀ (i : Nat) (x : V) (G1 H1 : Hp) (e : PyData), xs[i]? = some x → (ds.map (lstX n))[i]? = some e → Ext G H G1 H1 →
          ∀ (R : V → Hp → Prop), (∀ y G2 H2, Ext G1 H1 G2 H2 → Dp K G2 y e → R y H2) → sp_lists K n [x] H1 R E0 := by
        intro xs ds hA hall i x G1 H1 e hx he hE R hR
        obtain ⟨d, h1, h2⟩ := hA.back hx
        rw [List.getElem?_map, h1] at he
        have e2 : lstX n d = e := Option.some.inj he
        subst e2
        exact ⟨x, d, G1, rfl, hE.gh, h2.same hE.gg, hall d (List.mem_of_getElem? h1), hR⟩
      have fin : ∀ (ds : List PyData) (D : Addr) (H0 G1 H1 : Hp) (us : List V), Same H H0 → H0 D = none → Ext G H0 G1 H1 → G1 D = none → DpAll K G1 us (ds.map (lstX n)) → H1 D = some (.lst us) → lstX (n + 1) d = .list (ds.map (lstX n)) → Q (.ref D) H1 := by
        intro ds D H0 G1 H1 us h0 hD hE gD hA hus ed
        have hE2 : Ext G H G1 H1 := (Ext.of_same hG h0).trans hE
        have hE3 := hE2.give (h0.free hD) gD hus
        exact q _ _ _ hE3 (by rw [ed]; exact .lst (SqL.of upd_same) (hA.same (same_new gD _)))
      cases d with
      | int i =>
        have ev := hd.int_inv
        subst ev
        refine ⟨_, pss_one (ps_ret (pe_ifExp (pt_val (pe_callB call_isiT (by rfl) B.isinstance boot_isinstance (pa_cons (pv 0) (pa_cons (pe_tup (pa_cons (pe_bltn (v := .ty "list") (by rfl) B.list boot_list rfl) (pa_cons (pe_bltn (v := .ty "tuple") (by rfl) B.tuple boot_tuple rfl) pa_nil))) pa_nil))))
          (pe_lc (own := [("_law_bit", 1)]) (g := gName 1) (tt := tYes) rfl sc_lists.nd (pi_tup (pv 0)) (blkOk_by (own := [("_law_bit", 1)]) (N := N_lists) (sc := defScope st_lists) (by decide +kernel))
            (fun _ _ _ _ _ => pg_name (i := 1) sc_lists.nd rfl (Or.inl rfl)) (fun _ _ _ _ _ => pts_nil) (fun _ _ _ _ _ => pe_cal C hr (by rfl) (pa_cons (pv 1) pa_nil))) (pv 0))), ?_⟩
        refine ⟨.int i, rfl, by show 2 ≤ sizeLine; decide, fun p hp => ?_⟩
        refine ⟨.int i, p, [.ty "list", .ty "tuple"], .type "int", _, false, rfl, upd_same, paired_lt, .base (.int i), kit_lt_int, false, rfl, iteF ?_⟩
        exact ⟨.int i, rfl, q _ G _ ((Ext.rfl' hG).loc hp) (.int i)⟩
      | list ds =>
        obtain ⟨hl, hall⟩ := fit_list hf
        obtain ⟨a, xs, rfl, hL, hA⟩ := hd.lst_inv
        have hxl : xs.length = ds.length := hA.len
        refine ⟨_, pss_one (ps_ret (pe_ifExp (pt_val (pe_callB call_isiT (by rfl) B.isinstance boot_isinstance (pa_cons (pv 0) (pa_cons (pe_tup (pa_cons (pe_bltn (v := .ty "list") (by rfl) B.list boot_list rfl) (pa_cons (pe_bltn (v := .ty "tuple") (by rfl) B.tuple boot_tuple rfl) pa_nil))) pa_nil))))
          (pe_lc (own := [("_law_bit", 1)]) (g := gName 1) (tt := tYes) rfl sc_lists.nd (pi_list (pv 0)) (blkOk_by (own := [("_law_bit", 1)]) (N := N_lists) (sc := defScope st_lists) (by decide +kernel))
            (fun _ _ _ _ _ => pg_name (i := 1) sc_lists.nd rfl (Or.inl rfl)) (fun _ _ _ _ _ => pts_nil) (fun _ _ _ _ _ => pe_cal C hr (by rfl) (pa_cons (pv 1) pa_nil))) (pv 0))), ?_⟩
        refine ⟨.ref a, rfl, by show 2 ≤ sizeLine; decide, fun p hp => ?_⟩
        have s0 : Same H (upd H p (.tup [.ty "list", .ty "tuple"])) := same_new hp _
        have hL1 := s0.seq (hG.seq hL)
        refine ⟨.ref a, p, [.ty "list", .ty "tuple"], .type "list", _, true, rfl, upd_same, paired_lt, tyx_lst hL1, kit_lt_list, true, rfl, iteT ?_⟩
        refine ⟨.ref a, rfl, a, rfl, ⟨_, hL1⟩, fun D hD => lc_data (K := K) (G := G) (walk_list (xs := xs)) (ds.map (lstX n)) (by rw [List.length_map]; exact hxl) (by omega) (hG.trans s0) hD (fun H' s => s.seq hL1) ?_ ?_⟩
        · intro i x G1 H1 H1' e hi he hE hD1 gD hY R hR
          obtain ⟨rfl, hx⟩ := hY
          exact ⟨rfl, _, rfl, body xs ds hA hall i x G1 H1' e hx he ((Ext.of_same hG s0).trans hE) R hR⟩
        · intro G1 H1 us hE gD hA1 hus
          exact fin ds D _ G1 H1 us s0 hD hE gD hA1 hus rfl
      | tuple ds =>
        obtain ⟨hl, hall⟩ := fit_tuple hf
        obtain ⟨a, xs, rfl, hL, hA⟩ := hd.tup_inv
        have hxl : xs.length = ds.length := hA.len
        refine ⟨_, pss_one (ps_ret (pe_ifExp (pt_val (pe_callB call_isiT (by rfl) B.isinstance boot_isinstance (pa_cons (pv 0) (pa_cons (pe_tup (pa_cons (pe_bltn (v := .ty "list") (by rfl) B.list boot_list rfl) (pa_cons (pe_bltn (v := .ty "tuple") (by rfl) B.tuple boot_tuple rfl) pa_nil))) pa_nil))))
          (pe_lc (own := [("_law_bit", 1)]) (g := gName 1) (tt := tYes) rfl sc_lists.nd (pi_tup (pv 0)) (blkOk_by (own := [("_law_bit", 1)]) (N := N_lists) (sc := defScope st_lists) (by decide +kernel))
            (fun _ _ _ _ _ => pg_name (i := 1) sc_lists.nd rfl (Or.inl rfl)) (fun _ _ _ _ _ => pts_nil) (fun _ _ _ _ _ => pe_cal C hr (by rfl) (pa_cons (pv 1) pa_nil))) (pv 0))), ?_⟩
        refine ⟨.ref a, rfl, by show 2 ≤ sizeLine; decide, fun p hp => ?_⟩
        have s0 : Same H (upd H p (.tup [.ty "list", .ty "tuple"])) := same_new hp _
        have hL1 := same_seqT s0 (same_seqT hG hL)
        refine ⟨.ref a, p, [.ty "list", .ty "tuple"], .type "tuple", _, true, rfl, upd_same, paired_lt, tyx_tup hL1, kit_lt_tup, true, rfl, iteT ?_⟩
        refine ⟨.ref a, rfl, a, rfl, ⟨_, hL1⟩, fun D hD => lc_data (K := K) (G := G) (walk_tup (xs := xs)) (ds.map (lstX n)) (by rw [List.length_map]; exact hxl) (by omega) (hG.trans s0) hD (fun H' s => same_seqT s hL1) ?_ ?_⟩
        · intro i x G1 H1 H1' e hi he hE hD1 gD hY R hR
          obtain ⟨rfl, hx⟩ := hY
          exact ⟨rfl, _, rfl, body xs ds hA hall i x G1 H1' e hx he ((Ext.of_same hG s0).trans hE) R hR⟩
        · intro G1 H1 us hE gD hA1 hus
          exact fin ds D _ G1 H1 us s0 hD hE gD hA1 hus rfl
      | _ => cases hf
/-! ### _law_of -/
abbrev st_of : Stmt := topS 38
theorem sc_of : FnScope ["_law_tin", "_law_goods_so"] ["_law_tin", "_law_goods_so"] (defScope st_of) := ⟨rfl, rfl, rfl, by decide +kernel, rfl, by decide +kernel, by decide +kernel⟩
def sp_of : Sp := fun vs H Q _ => ∃ (p g : Addr) (c : Nat) (xs : List V), vs = [.ref p, .ref g] ∧ Tin H p c ∧ c ≤ 1000 ∧ H g = some (.lst xs) ∧ g ≠ p ∧ xs ≠ [] ∧ xs.length ≤ 1000 ∧ ∀ x z, x ∈ xs → Tin (upd H p z) p (c + 1) → Q x (upd H p z)
theorem ok_of (S : Src K mg "_law_of" st_of ["_law_tin", "_law_goods_so"]) (B : Blt mg) (C : Cal P w K mg base 1 "_law_take" ["_law_tin", "_law_below_so"] sp_take) : Cal P w K mg base 2 "_law_of" ["_law_tin", "_law_goods_so"] sp_of := by
  refine S.cal sc_of (fun vs H Q E h => ?_) (fun f cdv A outer s H vs Q E hr h => ?_)
  · obtain ⟨p, g, c, xs, rfl, _⟩ := h
    rfl
  · obtain ⟨p, g, c, xs, rfl, ht, hc, hg, hgp, hne, hl, q⟩ := h
    refine ⟨_, pss_one (ps_ret (pe_ix (ixL K) (pv 1) (pe_cal C hr (by rfl) (pa_cons (pv 0) (pa_cons (pe_len B (pv 1)) pa_nil))) (fun _ _ => rfl))), ?_⟩
    have hpos : 0 < xs.length := List.length_pos_iff.mpr hne
    refine ⟨.ref g, rfl, .ref p, rfl, .ref g, rfl, g, _, rfl, .inl (SqL.of hg), p, _, c, rfl, ht, by omega, by omega, hc, fun r z hr2 ht2 => ?_⟩
    have hrl : r < xs.length := by omega
    exact ⟨g, _, _, xs[r], rfl, rfl, SqL.of (by rw [upd_ne hgp]; exact hg), atI_nat (List.getElem?_eq_getElem hrl), q _ _ (List.getElem_mem hrl) ht2⟩
/-! ### _law_pick -/
abbrev st_pick : Stmt := topS 39
abbrev N_pick : List Str := ["_law_tin", "_law_goods_so", "_law_count_so", "_law_pool_so", "_law_found", "_law_lap"]
theorem sc_pick : FnScope N_pick ["_law_tin", "_law_goods_so", "_law_count_so"] (defScope st_pick) := ⟨rfl, rfl, rfl, by decide +kernel, rfl, by decide +kernel, by decide +kernel⟩
def sp_pick : Sp := fun vs H Q _ => ∃ (p g : Addr) (c n : Nat) (xs : List V), vs = [.ref p, .ref g, .int n] ∧ Tin H p c ∧ c ≤ 500 ∧ H g = some (.lst xs) ∧ g ≠ p ∧ xs.length = n ∧ n ≤ 100 ∧
  ∀ (q : Addr) (ys : List V) (H' : Hp), H q = none → H' q = some (.lst ys) → ys.Perm xs → Tin H' p (c + n) → (∀ G, Same G H → G p = none → Same G H') → Q (.ref q) H'
theorem ok_pick (S : Src K mg "_law_pick" st_pick ["_law_tin", "_law_goods_so", "_law_count_so"]) (B : Blt mg) (C : Cal P w K mg base 1 "_law_take" ["_law_tin", "_law_below_so"] sp_take) : Cal P w K mg base 2 "_law_pick" ["_law_tin", "_law_goods_so", "_law_count_so"] sp_pick := by
  refine S.cal sc_pick (fun vs H Q E h => ?_) (fun f cdv A outer s H vs Q E hr h => ?_)
  · obtain ⟨p, g, c, n, xs, rfl, _⟩ := h
    rfl
  · obtain ⟨p, g, c, n, xs, rfl, ht, hc, hg, hgp, hn, hn1, q⟩ := h
    refine ⟨_, pss_cons (ps_par (i := 3) (j := 4) rfl sc_pick.nd rfl rfl (by decide) rfl rfl (pa_cons (pe_callTy call_list_of (by rfl) B.list boot_list (pa_cons (pv 1) pa_nil)) (pa_cons (pe_lst pa_nil) pa_nil)) (by rfl))
      (pss_cons (ps_for PassesOwn.never rfl (pi_range1 (by rfl) B.range (pa_cons (pe_callB (call_min2 rfl) (by rfl) B.min boot_min (pa_cons (pe_callTy call_int1 (by rfl) B.int PyProof.Rows.boot_int (pa_cons (pv 2) pa_nil)) (pa_cons (pe_len B (pv 3)) pa_nil))) pa_nil)) (pg_name (i := 5) sc_pick.nd rfl (.inl rfl))
        (pss_one (ps_expr (pe_bm PySem.F.plainAttrs_list PySem.F.slot_list_append PySem.F.type_list_append mt_append (pv 4)
          (pa_cons (pe_bm PySem.F.plainAttrs_list PySem.F.slot_list_pop PySem.F.type_list_pop mt_popAt (pv 3) (pa_cons (pe_cal C hr (by rfl) (pa_cons (pv 0) (pa_cons (pe_len B (pv 3)) pa_nil))) pa_nil)) pa_nil)))))
      (pss_one (ps_ret (pv 4)))), ?_⟩
    refine ⟨.ref g, rfl, g, _, rfl, .inl (SqL.of hg), fun l hl => ⟨by show 0 ≤ sizeLine; decide, fun d hd => ⟨_, _, rfl, ?_⟩⟩⟩
    have nld : l ≠ d := fun e => by rw [← e, upd_same] at hd; cases hd
    have s1 : Same H (upd (upd H l (.lst xs)) d (.lst [])) := (same_new hl _).trans (same_new hd _)
    have hdH : H d = none := (same_new hl (.lst xs)).free hd
    have hl1 : (upd (upd H l (.lst xs)) d (.lst [])) l = some (.lst xs) := by rw [upd_ne nld, upd_same]
    have hd1 : (upd (upd H l (.lst xs)) d (.lst [])) d = some (.lst []) := upd_same
    generalize (upd (upd H l (.lst xs)) d (.lst [])) = H1 at s1 hl1 hd1 ⊢
    have npl : p ≠ l := fun e => ht.ne (by rw [e]; exact hl)
    have npd : p ≠ d := fun e => ht.ne (by rw [e]; exact hdH)
    refine ⟨.int n, rfl, .inl ⟨_, rfl, .ref l, rfl, l, _, rfl, .inl (SqL.of hl1), _, _, rfl, ?_⟩⟩
    have em : (if ((xs.length : Nat) : Int) < (n : Int) then ((xs.length : Nat) : Int) else (n : Int)) = (n : Int) := by rw [hn]; split <;> rfl
    rw [em]
    refine ⟨_, rfl, by omega, by omega, for_it walk_range (fun i σ H2 => ∃ y5 xi yi, σ = [some (.ref p), some (.ref g), some (.int n), some (.ref l), some (.ref d), y5] ∧ H2 l = some (.lst xi) ∧ H2 d = some (.lst yi) ∧ (yi ++ xi).Perm xs ∧ yi.length = i ∧ Tin H2 p (c + i) ∧ ∀ G, Same G H → G p = none → Same G H2)
      ⟨none, xs, [], rfl, hl1, hd1, List.Perm.refl _, rfl, ht.same s1, fun G g1 _ => g1.trans s1⟩ (fun _ _ _ _ _ => trivial) (fun i x σ H2 H2' hi p2 hY => ?_) (fun σ H2 p2 => ?_)⟩
    · have hi' : i < n := by
        rw [Int.toNat_natCast] at hi
        exact hi
      obtain ⟨y5, xi, yi, rfl, hl2, hd2, hpm, hyl, ht2, hG⟩ := p2
      obtain ⟨rfl, rfl⟩ := hY
      have hlen := hpm.length_eq
      rw [List.length_append, hyl] at hlen
      refine ⟨.ref d, rfl, .inl ⟨rfl, _, SqL.of hd2⟩, .ref l, rfl, .inl ⟨rfl, _, SqL.of hl2⟩, .ref p, rfl, .ref l, rfl, l, _, rfl, .inl (SqL.of hl2), p, _, c + i, rfl, ht2, by omega, by omega, by omega, fun r z hr2 ht3 => ?_⟩
      have hrl : r < xi.length := by omega
      have hl3 : (upd H2' p z) l = some (.lst xi) := by rw [upd_ne npl.symm]; exact hl2
      have hd3 : (upd H2' p z) d = some (.lst yi) := by rw [upd_ne npd.symm]; exact hd2
      refine ⟨l, xi, (r : Int), r, xi[r], rfl, rfl, hl3, by omega, by omega, ?_, List.getElem?_eq_getElem hrl, d, yi, _, rfl, rfl, ?_, small1000 (by omega), ?_⟩
      · have := PySem.seqIndex_of (k := (r : Int)) (n := xi.length) (by omega) (by omega)
        rw [Int.toNat_natCast] at this
        exact this
      · rw [upd_ne nld.symm]
        exact hd3
      · refine ⟨_, xi.eraseIdx r, yi ++ [xi[r]], rfl, ?_, upd_same, ?_, ?_, ?_, ?_⟩
        · rw [upd_ne nld, upd_same]
        · refine List.Perm.trans ?_ hpm
          rw [List.append_assoc]
          refine List.Perm.append_left yi ?_
          exact erase_perm xi r hrl
        · rw [List.length_append, hyl]; rfl
        · obtain ⟨a, b, k, e1, e2⟩ := ht3
          exact ⟨a, b, k, by rw [upd_ne npd, upd_ne npl]; exact e1, e2.1, by have := e2.2; omega⟩
        · intro G g1 g2
          exact same_mut (same_mut (same_mut (hG G g1 g2) g2) (g1.free hl)) (g1.free hdH)
    · obtain ⟨y5, xi, yi, rfl, hl2, hd2, hpm, hyl, ht2, hG⟩ := p2
      rw [Int.toNat_natCast] at hyl ht2
      have hlen := hpm.length_eq
      rw [List.length_append, hyl] at hlen
      have hx0 : xi = [] := List.eq_nil_of_length_eq_zero (by omega)
      rw [hx0, List.append_nil] at hpm
      exact ⟨.ref d, rfl, q d yi H2 hdH hd2 hpm ht2 hG⟩
end
end Hk

set_option Elab.async false
set_option linter.all false
set_option maxRecDepth 100000
set_option maxHeartbeats 4000000
namespace Hk
open PySem PySem.Spec PyProof.Rows L2 Hm
theorem kit_bs_int {K : PySem.W.Frag} : PySem.W.kitAny K (.type "int") [.type "bool", .type "str"] = some false := kitAny_cons (b := false) (kit_ty (by decide +kernel)) (fun _ => kitAny_cons (b := false) (kit_ty (by decide +kernel)) (fun _ => kitAny_nil) (fun h => nomatch h)) (fun h => nomatch h)
theorem kit_list_list {K : PySem.W.Frag} : PySem.W.kitOne K (.type "list") (.type "list") = some true := kit_ty (by decide +kernel)
theorem kit_list_tup {K : PySem.W.Frag} : PySem.W.kitOne K (.type "list") (.type "tuple") = some false := kit_ty (by decide +kernel)
theorem paired_bs : Paired ClsV [.ty "bool", .ty "str"] [.type "bool", .type "str"] := .cons (.ty _) (.cons (.ty _) .nil)
theorem boot_str' : bootBuiltins "str" = some (.type "str") := by decide +kernel
section
variable {P : Program} {w : World} {K : PySem.W.Frag} {mg : Str → Option Value} {base : Heap}
/-! ### _law_same -/
abbrev st_same : Stmt := topS 41
abbrev N_same : List Str := ["_law_got", "_law_due", "_law_mine", "_law_its"]
theorem sc_same : FnScope N_same ["_law_got", "_law_due"] (defScope st_same) := ⟨rfl, rfl, rfl, by decide +kernel, rfl, by decide +kernel, by decide +kernel⟩
def sp_sameI : Sp := fun vs H Q _ => ∃ (i j : Int), vs = [.int i, .int j] ∧ ∀ H', Same H H' → Q (.bl (decide (i = j))) H'
def sp_sameL (K : PySem.W.Frag) : Sp := fun vs H Q _ => ∃ (a b : Addr) (ns ms : List Int), vs = [.ref a, .ref b] ∧ SqL K H a (ns.map V.int) ∧ SqL K H b (ms.map V.int) ∧ ns = ms ∧ ns.length ≤ 1000 ∧ ∀ H', Same H H' → Q (.bl true) H'
theorem ok_sameI (S : Src K mg "_law_same" st_same ["_law_got", "_law_due"]) (B : Blt mg) : Cal P w K mg base 1 "_law_same" ["_law_got", "_law_due"] sp_sameI := by
  refine S.cal sc_same (fun vs H Q E h => ?_) (fun f cdv A outer s H vs Q E hr h => ?_)
  · obtain ⟨i, j, rfl, _⟩ := h
    rfl
  · obtain ⟨i, j, rfl, q⟩ := h
    refine ⟨_, pss_cons (ps_if (pt_val (pe_callB call_isiT (by rfl) B.isinstance boot_isinstance (pa_cons (pv 1) (pa_cons (pe_tup (pa_cons (pe_bltn (v := .ty "list") (by rfl) B.list boot_list rfl) (pa_cons (pe_bltn (v := .ty "tuple") (by rfl) B.tuple boot_tuple rfl) pa_nil))) pa_nil)))) (pss_cons ps_never (pss_one ps_never)) pss_nil)
      (pss_cons (ps_if (PW.pt (pw_or (pt_cmp (pc_isN (pv 1))) (pw_or1 (pt_val (pe_callB call_isiT (by rfl) B.isinstance boot_isinstance (pa_cons (pv 1) (pa_cons (pe_tup (pa_cons (pe_bltn (v := .ty "bool") (by rfl) B.bool boot_bool' rfl) (pa_cons (pe_bltn (v := .ty "str") (by rfl) B.str boot_str' rfl) pa_nil))) pa_nil))))))) (pss_one ps_never) pss_nil)
      (pss_one (ps_ret (pe_and (pe_isi B (pv 0) B.int boot_int) (pe_and (pe_not (pe_isi B (pv 0) B.bool boot_bool')) (pe_one (pe_cmpR op_eq (pv 0) (pv 1) (nomark _)))))))), ?_⟩
    refine ⟨.int j, rfl, by show 2 ≤ sizeLine; decide, fun p hp => ?_⟩
    refine ⟨.int j, p, [.ty "list", .ty "tuple"], .type "int", _, false, rfl, upd_same, paired_lt, .base (.int j), kit_lt_int, false, rfl, iteF ?_⟩
    refine ⟨.int j, rfl, false, rfl, iteF ?_⟩
    refine ⟨.int j, rfl, by show 2 ≤ sizeLine; decide, fun p2 hp2 => ?_⟩
    refine ⟨.int j, p2, [.ty "bool", .ty "str"], .type "int", _, false, rfl, upd_same, paired_bs, .base (.int j), kit_bs_int, false, rfl, iteF ?_⟩
    refine ⟨.int i, rfl, .int i, .ty "int", .type "int", .type "int", true, rfl, .ty _, .base (.int i), kit_int_int, true, rfl, iteT ?_⟩
    refine ⟨.int i, rfl, .int i, .ty "bool", .type "int", .type "bool", false, rfl, .ty _, .base (.int i), kit_int_bool, false, rfl, true, rfl, iteT ?_⟩
    refine ⟨.int i, rfl, .int j, rfl, rfl, ?_⟩
    have ed : decide (V.int i = V.int j) = decide (i = j) := decI i j
    show Q (.bl (decide (V.int i = V.int j))) _
    rw [ed]
    exact q _ ((same_new hp _).trans (same_new hp2 _))
theorem ok_sameL (S : Src K mg "_law_same" st_same ["_law_got", "_law_due"]) (B : Blt mg) (C : Cal P w K mg base 1 "_law_same" ["_law_got", "_law_due"] sp_sameI) : Cal P w K mg base 2 "_law_same" ["_law_got", "_law_due"] (sp_sameL K) := by
  refine S.cal sc_same (fun vs H Q E h => ?_) (fun f cdv A outer s H vs Q E hr h => ?_)
  · obtain ⟨a, b, ns, ms, rfl, _⟩ := h
    rfl
  · obtain ⟨a, b, ns, ms, rfl, ha, hb, rfl, hl, q⟩ := h
    refine ⟨_, pss_cons (ps_if (pt_val (pe_callB call_isiT (by rfl) B.isinstance boot_isinstance (pa_cons (pv 1) (pa_cons (pe_tup (pa_cons (pe_bltn (v := .ty "list") (by rfl) B.list boot_list rfl) (pa_cons (pe_bltn (v := .ty "tuple") (by rfl) B.tuple boot_tuple rfl) pa_nil))) pa_nil))))
        (pss_cons (ps_if (PW.pt (pw_or (pt_cmpR op_ne (pe_isi B (pv 0) B.list boot_list) (pe_isi B (pv 1) B.list boot_list) (nomark _)) (pw_or1 (pt_cmpR op_ne (pe_isi B (pv 0) B.tuple boot_tuple) (pe_isi B (pv 1) B.tuple boot_tuple) (nomark _))))) (pss_one ps_never) pss_nil)
        (pss_one (ps_ret (pe_and (pe_cmpR op_eq (pe_len B (pv 0)) (pe_len B (pv 1)) (nomark _)) (pe_one (pe_all B rfl
          (pe_lc (own := [("_law_mine", 2), ("_law_its", 3)]) (g := gTupK K 2 (gCons (gName 2) (gCons (gName 3) gNil))) rfl sc_same.nd (zipA K (by rfl) B.zip (pa_cons (pv 0) (pa_cons (pv 1) pa_nil))) (blkOk_by (own := [("_law_mine", 2), ("_law_its", 3)]) (N := N_same) (sc := defScope st_same) (by decide +kernel))
              (fun _ _ _ _ _ => pgT K rfl (pgs_cons (pg_name (i := 2) sc_same.nd rfl (Or.inl rfl)) (pgs_cons (pg_name (i := 3) sc_same.nd rfl (Or.inl rfl)) pgs_nil)))
              (fun _ _ _ _ _ => pts_nil)
              (fun _ _ _ _ _ => pe_cal C hr (by rfl) (pa_cons (pv 2) (pa_cons (pv 3) pa_nil)))))))))) pss_nil)
      (pss_cons ps_never (pss_one ps_never)), ?_⟩
    refine ⟨.ref b, rfl, by show 2 ≤ sizeLine; decide, fun p hp => ?_⟩
    have s0 : Same H (upd H p (.tup [.ty "list", .ty "tuple"])) := same_new hp _
    have ha1 := s0.seq ha
    have hb1 := s0.seq hb
    refine ⟨.ref b, p, [.ty "list", .ty "tuple"], .type "list", _, true, rfl, upd_same, paired_lt, tyx_lst hb1, kit_lt_list, true, rfl, iteT ?_⟩
    refine ⟨.ref a, rfl, .ref a, .ty "list", .type "list", .type "list", true, rfl, .ty _, tyx_lst ha1, kit_list_list, .ref b, rfl, .ref b, .ty "list", .type "list", .type "list", true, rfl, .ty _, tyx_lst hb1, kit_list_list, rfl, false, rfl, iteF ?_⟩
    refine ⟨.ref a, rfl, .ref a, .ty "tuple", .type "list", .type "tuple", false, rfl, .ty _, tyx_lst ha1, kit_list_tup, .ref b, rfl, .ref b, .ty "tuple", .type "list", .type "tuple", false, rfl, .ty _, tyx_lst hb1, kit_list_tup, rfl, false, rfl, iteF ?_⟩
    refine ⟨.ref a, rfl, a, _, rfl, .inl ha1, .ref b, rfl, b, _, rfl, .inl hb1, rfl, true, congrArg V.bl (decide_eq_true rfl), iteT ?_⟩
    refine ⟨.ref a, rfl, .ref b, rfl, a, b, _, _, rfl, .inl ⟨ha1, hb1, fun D hD => lc_filt (walk_zip (n := ns.length) (xs := ns.map V.int) (ys := ns.map V.int) (by rw [List.length_map, Nat.min_self])) (fun _ => some (.bl true)) (by omega) hD (fun H' s => ⟨s.seq ha1, s.seq hb1⟩) ?_ ?_⟩⟩
    · intro i x H1 H1' hi s1 hD1 hY R1 R0 g1 g0
      obtain ⟨T, y1, y2, rfl, hT, rfl, ey, ez⟩ := hY
      replace ey : (ns.map V.int)[i]? = some y1 := ey
      replace ez : (ns.map V.int)[i]? = some y2 := ez
      rw [List.getElem?_map, List.getElem?_eq_getElem hi] at ey ez
      have ey' := Option.some.inj ey
      have ez' := Option.some.inj ez
      subst ey' ez'
      refine ⟨T, _, rfl, st_new, rfl, _, _, rfl, _, _, rfl, rfl, rfl, .int ns[i], rfl, .int ns[i], rfl, ns[i], ns[i], rfl, fun H3 s3 => ?_⟩
      rw [decide_eq_true rfl]
      exact g1 _ _ rfl ((same_new hT _).trans s3)
    · intro H1 s1 hD1
      refine ⟨D, (List.range ns.length).map fun _ => true, rfl, (by rw [← fm_bl]; exact SqL.of hD1), ?_⟩
      rw [all_rg, all_true]
      exact q H1 (s0.trans s1)
/-! ### _law_line -/
abbrev st_line : Stmt := topS 43
abbrev N_line : List Str := ["_law_net_here", "_law_boughs", "_law_half", "_law_found", "_law_bond"]
theorem sc_line : FnScope N_line ["_law_net_here", "_law_boughs", "_law_half"] (defScope st_line) := ⟨rfl, rfl, rfl, by decide +kernel, rfl, by decide +kernel, by decide +kernel⟩
def sp_line (K : PySem.W.Frag) : Sp := fun vs H Q _ => ∃ (v bv : V) (wb : Web) (ts : List (Nat × Nat)) (half : Nat), vs = [v, bv, .int half] ∧ Dp K H v (encW wb) ∧ Dp K H bv (encTs ts) ∧ half ≤ 1 ∧ Small wb ∧ (∀ t ∈ ts, t.1 < wb.m ∧ t.2 < wb.n) ∧
  ∀ p H', Same H H' → H p = none → H' p = some (.tup ((line wb half ts).map V.int)) → Q (.ref p) H'
theorem line_len (wb : Web) (half : Nat) (ts : List (Nat × Nat)) : (line wb half ts).length = wb.size half := by
  unfold line
  have h : ∀ (ts : List (Nat × Nat)) (l : List Int), (ts.foldl (fun l b => l.set (sel half b) (l.getD (sel half b) 0 + 1)) l).length = l.length := by
    intro ts
    induction ts with
    | nil => intro l; rfl
    | cons t r ih => intro l; rw [List.foldl_cons, ih, List.length_set]
  rw [h, List.length_replicate]
theorem sel_lt {wb : Web} {half : Nat} {t : Nat × Nat} (h : half ≤ 1) (hb : t.1 < wb.m ∧ t.2 < wb.n) : sel half t < wb.size half := by
  unfold sel Web.size
  split
  · exact hb.1
  · exact hb.2
theorem ixN_nat {n j : Nat} (h : j < n) : ixN n ((j : Nat) : Int) = some j := by
  unfold ixN
  rw [if_pos (by omega), if_pos (by omega), Int.toNat_natCast]
theorem ok_line (S : Src K mg "_law_line" st_line ["_law_net_here", "_law_boughs", "_law_half"]) (B : Blt mg) : Cal P w K mg base 1 "_law_line" ["_law_net_here", "_law_boughs", "_law_half"] (sp_line K) := by
  refine S.cal sc_line (fun vs H Q E h => ?_) (fun f cdv A outer s H vs Q E hr h => ?_)
  · obtain ⟨v, bv, wb, ts, half, rfl, _⟩ := h
    rfl
  · obtain ⟨v, bv, wb, ts, half, rfl, hd, hbv, hs, hsm, hbd, q⟩ := h
    obtain ⟨a, t, rfl, hT, hd3⟩ := dp_web hd
    obtain ⟨b, xs, rfl, hX, hA⟩ := dp_ties hbv
    have hk3 : wb.size half ≤ 3 := size_le hsm
    have hxl : xs.length = ts.length := by rw [hA.len, List.length_map]
    refine ⟨_, pss_cons (ps_set (i := 3) sc_line.nd rfl (.inl rfl) (pe_op op_rep (pe_lst (pa_cons (pe_un un_neg pe_int) pa_nil)) (pe_ix (ixT K) (pv 0) (pv 2) (fun _ _ => rfl))))
      (pss_cons (ps_for PassesOwn.never rfl (pi_tup (pv 1)) (pg_name (i := 4) sc_line.nd rfl (.inl rfl))
        (pss_one (ps_asg (pe_op op_add (pe_ix (ixL K) (pv 3) (pe_ix (ixT K) (pv 4) (pv 2) (fun _ _ => rfl)) (fun _ _ => rfl)) pe_int) (pg_sub (pv 3) (pe_ix (ixT K) (pv 4) (pv 2) (fun _ _ => rfl)) set_list))))
      (pss_one (ps_ret (pe_callTy (tupOf K) (by rfl) B.tuple boot_tuple (pa_cons (pv 3) pa_nil))))), ?_⟩
    refine ⟨1, rfl, by show 1 ≤ sizeLine; decide, fun p0 hp0 => ?_⟩
    have s0 : Same H (upd H p0 (.lst [.int (-1)])) := same_new hp0 _
    refine ⟨.ref a, rfl, .int half, rfl, a, _, _, .int ((wb.size half : Nat) : Int), rfl, rfl, same_seqT s0 hT, web_at (H := H) (K := K) (a := a) hs, p0, _, _, rfl, rfl, upd_same, by omega, by omega, ?_, fun l hl => ?_⟩
    · rw [Int.toNat_natCast]
      show 1 * wb.size half ≤ sizeLine
      rw [Nat.one_mul]
      exact Nat.le_of_lt (small1000 (by omega))
    · have e1 : (List.replicate ((wb.size half : Nat) : Int).toNat [V.int (-1)]).flatten = (List.replicate (wb.size half) (-1 : Int)).map V.int := by
        rw [Int.toNat_natCast]
        generalize wb.size half = n
        induction n with
        | zero => rfl
        | succ n ih => rw [List.replicate_succ, List.flatten_cons, ih, List.replicate_succ]; rfl
      have hl1 : (upd (upd H p0 (.lst [.int (-1)])) l (.lst (List.replicate ((wb.size half : Nat) : Int).toNat [V.int (-1)]).flatten)) l = some (.lst ((List.replicate (wb.size half) (-1 : Int)).map V.int)) := by rw [e1, upd_same]
      have s1 := s0.trans (same_new hl (.lst (List.replicate ((wb.size half : Nat) : Int).toNat [V.int (-1)]).flatten))
      have hlH : H l = none := s0.free hl
      generalize (upd (upd H p0 (.lst [.int (-1)])) l (.lst (List.replicate ((wb.size half : Nat) : Int).toNat [V.int (-1)]).flatten)) = H1 at hl1 s1 ⊢
      refine ⟨.ref b, rfl, b, rfl, ⟨_, same_seqT s1 hX⟩, for_it (walk_tup (xs := xs)) (fun i σ H2 => ∃ y, σ = [some (.ref a), some (.ref b), some (.int half), some (.ref l), y] ∧ Same H H2 ∧ H2 l = some (.lst ((line wb half (ts.take i)).map V.int)))
        ⟨none, rfl, s1, hl1⟩ (fun i σ H2 _ p => ?_) (fun i x σ H2 H2' hi p hY => ?_) (fun σ H2 p => ?_)⟩
      · obtain ⟨_, _, s2, _⟩ := p
        exact same_seqT s2 hX
      · obtain ⟨y, rfl, s2, hl2⟩ := p
        obtain ⟨rfl, hx⟩ := hY
        obtain ⟨d, hd1, hd2⟩ := (hA.same s2).back hx
        rw [List.getElem?_map] at hd1
        have hi2 : i < ts.length := by omega
        rw [List.getElem?_eq_getElem hi2] at hd1
        have e2 := Option.some.inj hd1
        subst e2
        obtain ⟨c, rfl, hc⟩ := dp_pair hd2
        have hb := hbd _ (List.getElem_mem hi2)
        have hsl := sel_lt hs hb
        have hsl2 : sel half ts[i] < (line wb half (ts.take i)).length := by rw [line_len]; exact hsl
        refine ⟨.ref l, rfl, .ref c, rfl, .int half, rfl, c, _, _, selV half ts[i], rfl, rfl, hc, tie_at hs hc, l, _, _, .int ((line wb half (ts.take i)).getD (sel half ts[i]) 0), rfl, rfl, SqL.of hl2, at_ints hsl2, _, _, rfl, rfl, .ref l, rfl, .ref c, rfl, .int half, rfl, c, _, _, selV half ts[i], rfl, rfl, hc, tie_at hs hc, l, _, _, _, rfl, rfl, hl2, ixN_nat (j := sel half ts[i]) (by rw [List.length_map]; exact hsl2), ?_⟩
        refine ⟨_, rfl, same_mut s2 hlH, ?_⟩
        rw [upd_same]
        have e3 : line wb half (ts.take (i + 1)) = (line wb half (ts.take i)).set (sel half ts[i]) ((line wb half (ts.take i)).getD (sel half ts[i]) 0 + 1) := by
          unfold line
          rw [List.take_add_one, List.getElem?_eq_getElem hi2, List.foldl_append]
          rfl
        rw [e3, List.map_set]
      · obtain ⟨y, rfl, s2, hl2⟩ := p
        rw [hxl, List.take_length] at hl2
        refine ⟨.ref l, rfl, l, _, rfl, .inl ⟨SqL.of hl2, fun r hr2 => ?_⟩⟩
        exact q r _ (s2.trans (same_new hr2 _)) (s2.free hr2) upd_same
end
end Hk

set_option Elab.async false
set_option linter.all false
set_option maxRecDepth 100000
set_option maxHeartbeats 4000000
namespace Hk
open PySem PySem.Spec PySem.W PyProof.Rows L2 Hm
theorem perm_map_lift {α β : Type} (f : α → β) : ∀ {l m : List β}, l.Perm m → ∀ es : List α, m = es.map f → ∃ es' : List α, l = es'.map f ∧ es'.Perm es := by
  intro l m h
  induction h with
  | nil => intro es e; exact ⟨[], rfl, by cases es with | nil => exact .refl _ | cons => cases e⟩
  | cons x h ih =>
    intro es e
    cases es with
    | nil => cases e
    | cons y r =>
      rw [List.map_cons] at e
      injection e with e1 e2
      obtain ⟨es', h1, h2⟩ := ih r e2
      exact ⟨y :: es', by rw [List.map_cons, e1, h1], h2.cons y⟩
  | swap x y l =>
    intro es e
    cases es with
    | nil => cases e
    | cons a r =>
      cases r with
      | nil => cases e
      | cons b r =>
        rw [List.map_cons, List.map_cons] at e
        injection e with e1 e2
        injection e2 with e2 e3
        exact ⟨b :: a :: r, by rw [List.map_cons, List.map_cons, e1, e2, e3], .swap a b r⟩
  | trans h1 h2 ih1 ih2 =>
    intro es e
    obtain ⟨es1, q1, q2⟩ := ih2 es e
    obtain ⟨es2, q3, q4⟩ := ih1 es1 q1
    exact ⟨es2, q3, q4.trans q2⟩
/-! ### trees, step by step -/
abbrev TF := List (Nat × Nat) × List Nat
def fsAt (w : Web) : Nat → List TF
  | 0 => [([], List.range (w.m + w.n))]
  | i + 1 => match w.ties[i]? with
    | some bond => (fsAt w i).flatMap (treeStep w.m (w.m + w.n - 1) (w.ties.length - i - 1) bond)
    | none => fsAt w i
theorem fsAt_succ {w : Web} {i : Nat} (h : i < w.ties.length) : fsAt w (i + 1) = (fsAt w i).flatMap (treeStep w.m (w.m + w.n - 1) (w.ties.length - i - 1) w.ties[i]) := by
  show (match w.ties[i]? with | some bond => _ | none => _) = _
  rw [List.getElem?_eq_getElem h]
theorem fsAt_from (w : Web) : ∀ j i, i + j = w.ties.length → treesFrom w.m (w.m + w.n - 1) (w.ties.drop i) (fsAt w i) = fsAt w w.ties.length
  | 0, i, h => by
    have e : i = w.ties.length := by omega
    rw [e, List.drop_length]
    rfl
  | j + 1, i, h => by
    have hi : i < w.ties.length := by omega
    rw [List.drop_eq_getElem_cons hi]
    show treesFrom w.m (w.m + w.n - 1) (w.ties.drop (i + 1)) ((fsAt w i).flatMap (treeStep w.m (w.m + w.n - 1) (w.ties.drop (i + 1)).length w.ties[i])) = _
    rw [List.length_drop, show w.ties.length - (i + 1) = w.ties.length - i - 1 by omega, ← fsAt_succ hi]
    exact fsAt_from w j (i + 1) (by omega)
theorem trees_fs (w : Web) : trees w = ((fsAt w w.ties.length).filter fun f => f.1.length == w.m + w.n - 1).map Prod.fst := by
  unfold trees
  rw [← fsAt_from w w.ties.length 0 (by omega)]
  rfl
theorem step_len (m need left : Nat) (bond : Nat × Nat) (f : TF) : (treeStep m need left bond f).length ≤ 2 := by
  unfold treeStep
  rw [List.length_append]
  have h1 : (if need ≤ f.1.length + left then [f] else []).length ≤ 1 := by split <;> simp
  have h2 : (if f.2.getD bond.1 0 ≠ f.2.getD (m + bond.2) 0 ∧ f.1.length < need then [(f.1 ++ [bond], f.2.map fun own => if own = f.2.getD (m + bond.2) 0 then f.2.getD bond.1 0 else own)] else []).length ≤ 1 := by split <;> simp
  omega
theorem flat2_len {α β : Type} (g : α → List β) (h : ∀ a, (g a).length ≤ 2) : ∀ l : List α, (l.flatMap g).length ≤ 2 * l.length
  | [] => by simp
  | a :: r => by
    rw [List.flatMap_cons, List.length_append, List.length_cons]
    have := h a
    have := flat2_len g h r
    omega
theorem fs_len (w : Web) : ∀ i, (fsAt w i).length ≤ 2 ^ i
  | 0 => by show 1 ≤ 1; omega
  | i + 1 => by
    by_cases h : i < w.ties.length
    · rw [fsAt_succ h]
      have h1 := flat2_len _ (step_len w.m (w.m + w.n - 1) (w.ties.length - i - 1) w.ties[i]) (fsAt w i)
      have h2 := fs_len w i
      rw [Nat.pow_succ]
      omega
    · have e : fsAt w (i + 1) = fsAt w i := by
        show (match w.ties[i]? with | some bond => _ | none => _) = _
        rw [List.getElem?_eq_none (by omega)]
      rw [e]
      have h2 := fs_len w i
      rw [Nat.pow_succ]
      omega
theorem fs_ok (w : Web) : ∀ i, i ≤ w.ties.length → ∀ f ∈ fsAt w i, f.2.length = w.m + w.n ∧ f.1.length ≤ i ∧ ∀ t ∈ f.1, t ∈ w.ties
  | 0, _, f, hf => by
    have e : f = ([], List.range (w.m + w.n)) := by simpa [fsAt] using hf
    rw [e]
    exact ⟨List.length_range, Nat.le_refl _, fun t ht => by cases ht⟩
  | i + 1, hi, f, hf => by
    rw [fsAt_succ (by omega)] at hf
    obtain ⟨g, hg, hf⟩ := List.mem_flatMap.mp hf
    obtain ⟨h1, h2, h3⟩ := fs_ok w i (by omega) g hg
    unfold treeStep at hf
    rcases List.mem_append.mp hf with hf | hf
    · split at hf
      · have e : f = g := by simpa using hf
        rw [e]
        exact ⟨h1, by omega, h3⟩
      · cases hf
    · split at hf
      · have e := List.mem_singleton.mp hf
        rw [e]
        refine ⟨by rw [List.length_map]; exact h1, ?_, fun t ht => ?_⟩
        · show (g.1 ++ [w.ties[i]]).length ≤ i + 1
          rw [List.length_append, List.length_singleton]
          omega
        · rcases List.mem_append.mp ht with ht | ht
          · exact h3 t ht
          · rw [List.mem_singleton.mp ht]
            exact List.getElem_mem _
      · cases hf
theorem bneN {a b : Nat} (h : a ≠ b) : (!decide ((a : Int) = (b : Int))) = true := by
  rw [decide_eq_false (by omega)]
  rfl
theorem pow9 {i : Nat} (h : i ≤ 9) : 2 ^ i ≤ 512 := Nat.pow_le_pow_right (n := 2) (i := i) (j := 9) (by decide) h
/-- an entry -/
def TAt (K : PySem.W.Frag) (H : Hp) (v : V) (f : TF) : Prop := ∃ e b mk, v = .ref e ∧ SqT K H e [.ref b, .ref mk] ∧ Dp K H (.ref b) (encTs f.1) ∧ SqT K H mk ((iN f.2).map V.int)
theorem TAt.same {K : PySem.W.Frag} {H H' : Hp} {v : V} {f : TF} (s : Same H H') (h : TAt K H v f) : TAt K H' v f := by
  obtain ⟨e, b, mk, h1, h2, h3, h4⟩ := h
  exact ⟨e, b, mk, h1, same_seqT s h2, h3.same s, same_seqT s h4⟩
def TAtB (K : PySem.W.Frag) (H : Hp) (z : V × TF) (b : V) : Prop := ∃ e c mk, z.1 = .ref e ∧ b = .ref c ∧ SqT K H e [.ref c, .ref mk] ∧ Dp K H (.ref c) (encTs z.2.1)
theorem tat_split {K : PySem.W.Frag} {H : Hp} : ∀ {us : List V} {fs : List TF}, Paired (TAt K H) us fs → ∃ bs : List V, Paired (TAtB K H) (us.zip fs) bs ∧ DpAll K H bs (fs.map fun f => encTs f.1)
  | _, _, .nil => ⟨[], .nil, .nil⟩
  | _, _, .cons h t => by
    obtain ⟨bs, h1, h2⟩ := tat_split t
    obtain ⟨e, b, mk, q1, q2, q3, q4⟩ := h
    exact ⟨.ref b :: bs, .cons ⟨e, b, mk, q1, rfl, q2, q3⟩ h1, .cons q3 h2⟩
theorem dp_filter {K : PySem.W.Frag} {H : Hp} (p : TF → Bool) : ∀ {bs : List V} {fs : List TF}, DpAll K H bs (fs.map fun f => encTs f.1) → DpAll K H (((bs.zip fs).filter fun z => p z.2).map (·.1)) ((fs.filter p).map fun f => encTs f.1) := by
  intro bs fs
  induction fs generalizing bs with
  | nil => intro h; cases h; exact .nil
  | cons t ts ih =>
    intro h
    cases h with
    | cons h1 h2 =>
      rw [List.zip_cons_cons, List.filter_cons, List.filter_cons]
      by_cases z : p t = true
      · rw [if_pos z, if_pos z]
        exact .cons h1 (ih h2)
      · rw [if_neg z, if_neg z]
        exact ih h2
theorem alike_ts (a b : List (Nat × Nat)) : alike (encTs a) (encTs b) = true := by
  show alike (.tuple (a.map encP)) (.tuple (b.map encP)) = true
  rw [alike]
  induction a generalizing b with
  | nil => rw [List.map_nil, alikeAll]
  | cons x r ih =>
    cases b with
    | nil => rw [List.map_nil, List.map_cons, alikeAll]
    | cons y q =>
      rw [List.map_cons, List.map_cons, alikeAll, ih q]
      simp [encP, alike, alikeAll]
theorem depth_ts (a : List (Nat × Nat)) : (encTs a).depth ≤ 8 := by
  have h : ∀ a : List (Nat × Nat), PyData.depthAll (a.map encP) ≤ 1 := by
    intro a
    induction a with
    | nil => simp [PyData.depthAll]
    | cons x r ih => rw [List.map_cons, PyData.depthAll]; simp [encP, PyData.depth, PyData.depthAll]; omega
  show (PyData.tuple (a.map encP)).depth ≤ 8
  rw [PyData.depth]
  have := h a
  omega
section
variable {P : Program} {w : World} {K : PySem.W.Frag} {mg : Str → Option Value} {base : Heap}
/-! ### _law_all_trees -/
abbrev st_trees : Stmt := topS 42
abbrev N_trees : List Str := ["_law_net_here", "_law_need_so", "_law_found", "_law_k", "_law_bond", "_law_later_so", "_law_left_so", "_law_boughs", "_law_marks_so", "_law_near", "_law_far", "_law_own"]
theorem sc_trees : FnScope N_trees ["_law_net_here"] (defScope st_trees) := ⟨rfl, rfl, rfl, by decide +kernel, rfl, by decide +kernel, by decide +kernel⟩
def sp_trees (K : PySem.W.Frag) : Sp := fun vs H Q _ => ∃ (v : V) (wb : Web), vs = [v] ∧ Dp K H v (encW wb) ∧ Small wb ∧ 1 ≤ wb.m ∧ 1 ≤ wb.n ∧ (∀ t ∈ wb.ties, t.1 < wb.m ∧ t.2 < wb.n) ∧
  ∀ (p : Addr) (us : List V) (es : List (List (Nat × Nat))) (H' : Hp), Same H H' → H' p = some (.lst us) → DpAll K H' us (es.map encTs) → es.Perm (trees wb) → Q (.ref p) H'
theorem ok_trees (S : Src K mg "_law_all_trees" st_trees ["_law_net_here"]) (B : Blt mg) : Cal P w K mg base 1 "_law_all_trees" ["_law_net_here"] (sp_trees K) := by
  refine S.cal sc_trees (fun vs H Q E h => ?_) (fun f cdv A outer s H vs Q E hr h => ?_)
  · obtain ⟨v, wb, rfl, _⟩ := h
    rfl
  · obtain ⟨v, wb, rfl, hd, hsm, hm1, hn1, hbd, q⟩ := h
    obtain ⟨a, t, rfl, hT, hd3⟩ := dp_web hd
    obtain ⟨t', xs, et, hTs, hA⟩ := dp_ties hd3
    cases et
    have hxl : xs.length = wb.ties.length := by rw [hA.len, List.length_map]
    have ht9 := hsm.2.2
    refine ⟨_, pss_cons (ps_asg (pe_tup (pa_cons (pe_op op_sub (pe_op op_add (pe_ix (ixT K) (pv 0) pe_int (fun _ _ => rfl)) (pe_ix (ixT K) (pv 0) pe_int (fun _ _ => rfl))) pe_int)
          (pa_cons (pe_lst (pa_cons (pe_tup (pa_cons (pe_tup pa_nil) (pa_cons (pe_tupRg rfl (by rfl) B.tuple (prg_1 (by rfl) B.range (pe_op op_add (pe_ix (ixT K) (pv 0) pe_int (fun _ _ => rfl)) (pe_ix (ixT K) (pv 0) pe_int (fun _ _ => rfl))))) pa_nil))) pa_nil)) pa_nil)))
          (pgT K rfl (pgs_cons (pg_name (i := 1) sc_trees.nd rfl (.inr rfl)) (pgs_cons (pg_name (i := 2) sc_trees.nd rfl (.inl rfl)) pgs_nil))))
      (pss_cons (ps_for PassesOwn.never rfl (pi_enumT (by rfl) B.enumerate (pa_cons (pe_ix (ixT K) (pv 0) pe_int (fun _ _ => rfl)) pa_nil)) (pgT K rfl (pgs_cons (pg_name (i := 3) sc_trees.nd rfl (Or.inl rfl)) (pgs_cons (pg_name (i := 4) sc_trees.nd rfl (Or.inl rfl)) pgs_nil)))
        (pss_cons (ps_par (i := 5) (j := 6) rfl sc_trees.nd rfl rfl (by decide) rfl rfl (pa_cons (pe_lst pa_nil) (pa_cons (pe_op op_sub (pe_op op_sub (pe_len B (pe_ix (ixT K) (pv 0) pe_int (fun _ _ => rfl))) (pv 3)) pe_int) pa_nil)) (by rfl))
        (pss_cons (ps_for PassesOwn.never rfl (pi_list (pv 2)) (pgT K rfl (pgs_cons (pg_name (i := 7) sc_trees.nd rfl (Or.inl rfl)) (pgs_cons (pg_name (i := 8) sc_trees.nd rfl (Or.inl rfl)) pgs_nil)))
          (pss_cons (ps_if (pt_cmp (pc_ge (pe_op op_add (pe_len B (pv 7)) (pv 6)) (pv 1)))
            (pss_one (ps_expr (pe_bm PySem.F.plainAttrs_list PySem.F.slot_list_append PySem.F.type_list_append mt_append (pv 5) (pa_cons (pe_tup (pa_cons (pv 7) (pa_cons (pv 8) pa_nil))) pa_nil)))) pss_nil)
          (pss_cons (ps_asg (pe_tup (pa_cons (pe_ix (ixT K) (pv 8) (pe_ix (ixT K) (pv 4) pe_int (fun _ _ => rfl)) (fun _ _ => rfl)) (pa_cons (pe_ix (ixT K) (pv 8) (pe_op op_add (pe_ix (ixT K) (pv 0) pe_int (fun _ _ => rfl)) (pe_ix (ixT K) (pv 4) pe_int (fun _ _ => rfl))) (fun _ _ => rfl)) pa_nil)))
            (pgT K rfl (pgs_cons (pg_name (i := 9) sc_trees.nd rfl (.inr rfl)) (pgs_cons (pg_name (i := 10) sc_trees.nd rfl (.inr rfl)) pgs_nil))))
          (pss_one (ps_if (PW.pt (pw_and (pt_cmp (pc_neI (pv 9) (pv 10))) (pw_and1 (pt_cmp (pc_lt (pe_len B (pv 7)) (pv 1))))))
            (pss_one (ps_expr (pe_bm PySem.F.plainAttrs_list PySem.F.slot_list_append PySem.F.type_list_append mt_append (pv 5) (pa_cons (pe_tup (pa_cons (pe_op op_catA (pv 7) (pe_tup (pa_cons (pv 4) pa_nil)))
              (pa_cons (pe_callTy (tupOf K) (by rfl) B.tuple boot_tuple (pa_cons (pe_lc (own := [("_law_own", 11)]) (g := gName 11) rfl sc_trees.nd (pi_tup (pv 8)) (blkOk_by (own := [("_law_own", 11)]) (N := N_trees) (sc := defScope st_trees) (by decide +kernel))
                (fun _ _ _ _ _ => pg_name (i := 11) sc_trees.nd rfl (Or.inl rfl))
                (fun _ _ _ _ _ => pts_nil)
                (fun _ _ _ _ _ => pe_ifExp (pt_cmpR op_eq (pv 11) (pv 10) (nomark _)) (pv 9) (pv 11))) pa_nil)) pa_nil))) pa_nil)))) pss_nil)))))
        (pss_one (ps_set (i := 2) sc_trees.nd rfl (.inl rfl) (pv 5))))))
      (pss_one (ps_ret (pe_callB (cr_sortedD hr.units) (by rfl) B.sorted PyProof.Rows.boot_sorted (pa_cons
          (pe_lc (own := [("_law_own", 11)]) (g := gName 11) rfl sc_trees.nd (pi_list (pv 2)) (blkOk_by (own := [("_law_own", 11)]) (N := N_trees) (sc := defScope st_trees) (by decide +kernel))
            (fun _ _ _ _ _ => pg_name (i := 11) sc_trees.nd rfl (Or.inl rfl))
            (fun _ _ _ _ _ => pts_one (pt_cmpR op_eq (pe_callB (lenS K) (by rfl) B.len PySem.boot_len (pa_cons (pe_ix (ixT K) (pv 11) pe_int (fun _ _ => rfl)) pa_nil)) (pv 1) (nomark _)))
            (fun _ _ _ _ _ => pe_ix (ixT K) (pv 11) pe_int (fun _ _ => rfl))) pa_nil))))), ?_⟩
    refine ⟨.ref a, rfl, a, _, 0, .int wb.m, rfl, rfl, hT, atI_nat (j := 0) rfl, .ref a, rfl, a, _, 1, .int wb.n, rfl, rfl, hT, atI_nat (j := 1) rfl, _, _, rfl, rfl, _, _, rfl, rfl, ?_⟩
    refine ⟨by show 0 ≤ sizeLine; decide, fun x1 hx1 => ?_⟩
    have sA : Same H (upd H x1 (.tup [])) := same_new hx1 _
    have hTA := same_seqT sA hT
    refine ⟨.ref a, rfl, a, _, 0, .int wb.m, rfl, rfl, hTA, atI_nat (j := 0) rfl, .ref a, rfl, a, _, 1, .int wb.n, rfl, rfl, hTA, atI_nat (j := 1) rfl, _, _, rfl, rfl, _, rfl, RgOk.of_le (by omega) (by have := hsm.1; have := hsm.2.1; omega) (by omega) (by omega), fun x2 hx2 => ?_⟩
    have e0 : (wb.m : Int) + (wb.n : Int) = ((wb.m + wb.n : Nat) : Int) := by omega
    have erg : rgV 0 ((wb.m : Int) + (wb.n : Int)) = (iN (List.range (wb.m + wb.n))).map V.int := by rw [e0, rgV_iN]
    rw [erg]
    refine ⟨by show 2 ≤ sizeLine; decide, fun x3 hx3 => ⟨by show 1 ≤ sizeLine; decide, fun x4 hx4 => ⟨by show 2 ≤ sizeLine; decide, fun x5 hx5 => ?_⟩⟩⟩
    refine ⟨x5, _, rfl, st_new, rfl, _, _, rfl, _, _, rfl, rfl, ?_⟩
    have sB := sA.trans (same_new hx2 (.tup ((iN (List.range (wb.m + wb.n))).map V.int)))
    have n3 := same_new hx3 (.tup [V.ref x1, V.ref x2])
    have n4 := same_new hx4 (.lst [V.ref x3])
    have hx5v := same_new hx5 (.tup [V.int ((wb.m : Int) + (wb.n : Int) - 1), V.ref x4])
    have n345 := n3.trans (n4.trans hx5v)
    have sD := sB.trans n345
    have f0 : TAt K _ (.ref x3) ([], List.range (wb.m + wb.n)) := ⟨x3, x1, x2, rfl, same_seqT (n4.trans hx5v) st_new, Dp.tup (same_seqT ((same_new hx2 (.tup ((iN (List.range (wb.m + wb.n))).map V.int))).trans n345) st_new) .nil, same_seqT n345 st_new⟩
    have hfl0 := hx5v _ _ (upd_same (H := _) (a := x4) (o := .lst [V.ref x3]))
    generalize (upd _ x5 (.tup [V.int ((wb.m : Int) + (wb.n : Int) - 1), V.ref x4])) = HD at sD f0 hfl0 ⊢
    have hTD := same_seqT sD hT
    have hlen9 : ∀ i, i ≤ wb.ties.length → (fsAt wb i).length ≤ 512 := fun i hi => Nat.le_trans (fs_len wb i) (pow9 (by omega))
    refine ⟨.ref a, rfl, a, _, 2, .ref t, rfl, rfl, hTD, atI_nat (j := 2) rfl, t, xs, rfl, same_seqT sD hTs, for_it (walk_enumT (xs := xs)) (fun i σ H1 => ∃ y3 y4 y5 y6 y7 y8 y9 y10 fl us, σ = [some (.ref a), some (.int ((wb.m : Int) + (wb.n : Int) - 1)), some (.ref fl), y3, y4, y5, y6, y7, y8, y9, y10, none] ∧ Same H H1 ∧ H1 fl = some (.lst us) ∧ Paired (TAt K H1) us (fsAt wb i))
      ⟨none, none, none, none, none, none, none, none, x4, [.ref x3], rfl, sD, hfl0, .cons f0 .nil⟩ (fun i σ H1 _ p => ?_) (fun i x σ H1 H1' hi p hY => ?_) (fun σ H1 p => ?_)⟩
    · obtain ⟨_, _, _, _, _, _, _, _, _, _, _, s1, _⟩ := p
      exact same_seqT s1 hTs
    · obtain ⟨y3, y4, y5, y6, y7, y8, y9, y10, fl, us, rfl, s1, hfl, hus⟩ := p
      obtain ⟨T, w1, z, rfl, hTn, rfl, ey, ez⟩ := hY
      have ey' := Option.some.inj ey
      subst ey'
      replace ez : xs[i]? = some z := ez
      have hi2 : i < wb.ties.length := by omega
      have s2 : Same H1 (upd H1 T (.tup [.int ((i : Nat) : Int), z])) := same_new hTn _
      obtain ⟨d, hd1, hd2⟩ := ((hA.same s1).same s2).back ez
      rw [List.getElem?_map, List.getElem?_eq_getElem hi2] at hd1
      have e2 := Option.some.inj hd1
      subst e2
      obtain ⟨c, rfl, hc⟩ := dp_pair hd2
      have hb := hbd _ (List.getElem_mem hi2)
      refine ⟨T, _, rfl, st_new, rfl, _, _, rfl, _, _, rfl, rfl, ?_⟩
      have s12 := s1.trans s2
      have hfl2 := s2 _ _ hfl
      have hus2 : Paired (TAt K (upd H1 T (.tup [.int ((i : Nat) : Int), .ref c]))) us (fsAt wb i) := paired_imp (fun _ _ h => h.same s2) hus
      have hbondD : Dp K (upd H1 T (.tup [.int ((i : Nat) : Int), .ref c])) (.ref c) (encP wb.ties[i]) := hd2
      generalize upd H1 T (.tup [.int ((i : Nat) : Int), .ref c]) = H2 at s12 hfl2 hus2 hc hbondD ⊢
      generalize hbond : wb.ties[i] = bond at hb hc hbondD
      have hT2 := same_seqT s12 hT
      refine ⟨by show 0 ≤ sizeLine; decide, fun lo hlo => ?_⟩
      have n5 := same_new hlo (.lst [])
      refine ⟨.ref a, rfl, a, _, 2, .ref t, rfl, rfl, same_seqT n5 hT2, atI_nat (j := 2) rfl, t, xs, rfl, .inr (same_seqT n5 (same_seqT s12 hTs)), .int (i : Int), rfl, _, _, rfl, rfl, _, _, rfl, rfl, _, _, rfl, ?_⟩
      have hok := fs_ok wb i (by omega)
      have hfsl := hlen9 (i + 1) (by omega)
      have hstep := fsAt_succ hi2
      rw [hbond] at hstep
      rw [hstep] at hfsl
      have huf : us.length = (fsAt wb i).length := Paired.length hus2
      refine ⟨.ref fl, rfl, fl, rfl, ⟨_, SqL.of (n5 _ _ hfl2)⟩, for_it (walk_list (xs := us)) (fun j σ H3 => ∃ y7 y8 y9 y10 G vs, σ = [some (.ref a), some (.int ((wb.m : Int) + (wb.n : Int) - 1)), some (.ref fl), some (.int (i : Int)), some (.ref c), some (.ref lo), some (.int ((xs.length : Int) - (i : Int) - 1)), y7, y8, y9, y10, none] ∧ Same H2 G ∧ Same G H3 ∧ G lo = none ∧ H3 lo = some (.lst vs) ∧ Paired (TAt K G) vs (((fsAt wb i).take j).flatMap (treeStep wb.m (wb.m + wb.n - 1) (wb.ties.length - i - 1) bond)))
        ⟨y7, y8, y9, y10, H2, [], rfl, Same.refl _, n5, hlo, upd_same, .nil⟩ (fun j σ H3 _ p => ?_) (fun j x σ H3 H3' hj p hY => ?_) (fun σ H3 p => ?_)⟩
      · obtain ⟨_, _, _, _, G, vs, _, g1, g2, _⟩ := p
        exact SqL.of (g2 _ _ (g1 _ _ hfl2))
      · obtain ⟨y7, y8, y9, y10, G, vs, rfl, g1, g2, gn, hvs, hpv⟩ := p
        obtain ⟨rfl, hx⟩ := hY
        obtain ⟨f, hf, e, b, mk, rfl, he, hbD, hmk⟩ := paired_at hus2 hx
        obtain ⟨hl1, hl2, hl3⟩ := hok f (List.mem_of_getElem? hf)
        obtain ⟨b', bxs, eb, hbT, hbA⟩ := dp_ties hbD
        cases eb
        have hbl : bxs.length = f.1.length := by rw [hbA.len, List.length_map]
        have g12 := g1.trans g2
        have htot := Nat.le_trans (flat_take (fsAt wb i) (treeStep wb.m (wb.m + wb.n - 1) (wb.ties.length - i - 1) bond) (j + 1)) hfsl
        have hsucc := flat_succ (fsAt wb i) (treeStep wb.m (wb.m + wb.n - 1) (wb.ties.length - i - 1) bond) j f hf
        rw [hsucc] at htot
        generalize ((fsAt wb i).take j).flatMap (treeStep wb.m (wb.m + wb.n - 1) (wb.ties.length - i - 1) bond) = pref at hpv htot hsucc
        refine ⟨e, _, rfl, same_seqT g12 he, rfl, _, _, rfl, _, _, rfl, rfl, ?_⟩
        have hm3 := hsm.1
        have hn3 := hsm.2.1
        refine ⟨.ref b, rfl, b, _, rfl, .inr (same_seqT g12 hbT), .int _, rfl, _, _, rfl, rfl, .int _, rfl, _, _, rfl, rfl, _, rfl, ite2 (fun z => ?_) (fun z => ?_)⟩
        have hS1 : (if wb.m + wb.n - 1 ≤ f.1.length + (wb.ties.length - i - 1) then [f] else []) = [f] := if_pos (by have := of_decide_eq_true z; omega)
        have hb1 : (pref ++ [f]).length ≤ 512 := by
          unfold treeStep at htot
          rw [hS1, ← List.append_assoc, List.length_append] at htot
          omega
        have hvl0 : vs.length < sizeLine := by
          have := Paired.length hpv
          rw [List.length_append] at hb1
          exact small1000 (by omega)
        refine ⟨.ref lo, rfl, .inl ⟨rfl, _, SqL.of hvs⟩, .ref b, rfl, .ref mk, rfl, by show 2 ≤ sizeLine; decide, fun e2 he2 => ⟨lo, vs, _, rfl, rfl, (same_new he2 _) _ _ hvs, hvl0, ?_⟩⟩
        have E1 := (Ext.rfl' g2).new (o := .tup [.ref b, .ref mk]) he2
        have k1 := g1.trans E1.gg
        have kn := E1.none (some_ne hvs) gn
        have k2 : Same (upd G e2 (.tup [.ref b, .ref mk])) (upd (upd H3' e2 (.tup [.ref b, .ref mk])) lo (.lst (vs ++ [.ref e2]))) := same_mut E1.gh kn
        have hv3 : (upd (upd H3' e2 (.tup [.ref b, .ref mk])) lo (.lst (vs ++ [.ref e2]))) lo = some (.lst (vs ++ [.ref e2])) := upd_same
        have hp3 : Paired (TAt K (upd G e2 (.tup [.ref b, .ref mk]))) (vs ++ [.ref e2]) (pref ++ (if wb.m + wb.n - 1 ≤ f.1.length + (wb.ties.length - i - 1) then [f] else [])) := by
          rw [hS1]
          exact paired_snoc ⟨e2, b, mk, rfl, st_new, hbD.same k1, same_seqT k1 hmk⟩ (paired_imp (fun _ _ h => h.same E1.gg) hpv)
        generalize (upd (upd H3' e2 (.tup [.ref b, .ref mk])) lo (.lst (vs ++ [.ref e2]))) = H4 at k2 hv3 ⊢
        generalize (upd G e2 (.tup [.ref b, .ref mk])) = G4 at k1 kn k2 hp3
        generalize vs ++ [.ref e2] = vs4 at hv3 hp3
        rotate_left
        have hS1 : (if wb.m + wb.n - 1 ≤ f.1.length + (wb.ties.length - i - 1) then [f] else []) = [] := if_neg (fun q => z (decide_eq_true (by omega)))
        have k1 := g1
        have kn := gn
        have k2 := g2
        have hv3 := hvs
        have hp3 : Paired (TAt K G) vs (pref ++ (if wb.m + wb.n - 1 ≤ f.1.length + (wb.ties.length - i - 1) then [f] else [])) := by
          rw [hS1, List.append_nil]
          exact hpv
        generalize H3' = H4 at k2 hv3 ⊢
        generalize G = G4 at k1 kn k2 hp3
        generalize vs = vs4 at hv3 hp3
        all_goals
          have hT4 := same_seqT (s12.trans (k1.trans k2)) hT
          have hc4 := same_seqT (k1.trans k2) hc
          have hmk4 := same_seqT (k1.trans k2) hmk
          have hbT4 := same_seqT (k1.trans k2) hbT
          have hb1' : bond.1 < f.2.length := by rw [hl1]; omega
          have hb2' : wb.m + bond.2 < f.2.length := by rw [hl1]; omega
          refine ⟨.ref mk, rfl, .ref c, rfl, c, _, 0, .int (bond.1 : Int), rfl, rfl, hc4, atI_nat (j := 0) rfl, mk, _, _, .int ((f.2.getD bond.1 0 : Nat) : Int), rfl, rfl, hmk4, atI_nat (at_iN hb1'), ?_⟩
          refine ⟨.ref mk, rfl, .ref a, rfl, a, _, 0, .int wb.m, rfl, rfl, hT4, atI_nat (j := 0) rfl, .ref c, rfl, c, _, 1, .int (bond.2 : Int), rfl, rfl, hc4, atI_nat (j := 1) rfl, _, _, rfl, rfl, mk, _, _, .int ((f.2.getD (wb.m + bond.2) 0 : Nat) : Int), rfl, rfl, hmk4, at_of (j := wb.m + bond.2) (by omega) (at_iN hb2'), ?_⟩
          refine ⟨by show 2 ≤ sizeLine; decide, fun u hu => ⟨u, _, rfl, st_new, rfl, _, _, rfl, _, _, rfl, rfl, ?_⟩⟩
          have nu := same_new hu (.tup [.int ((f.2.getD bond.1 0 : Nat) : Int), .int ((f.2.getD (wb.m + bond.2) 0 : Nat) : Int)])
          have k3 := k2.trans nu
          have hv5 := nu _ _ hv3
          have hbT5 := same_seqT nu hbT4
          have hmk5 := same_seqT nu hmk4
          have fin0 : ∀ (H5 : Hp), Same G4 H5 → H5 lo = some (.lst vs4) → ¬ (f.2.getD bond.1 0 ≠ f.2.getD (wb.m + bond.2) 0 ∧ f.1.length < wb.m + wb.n - 1) → ∃ y7 y8 y9 y10 G vs, [some (V.ref a), some (.int ((wb.m : Int) + (wb.n : Int) - 1)), some (.ref fl), some (.int (i : Int)), some (.ref c), some (.ref lo), some (.int ((xs.length : Int) - (i : Int) - 1)), some (.ref b), some (.ref mk), some (.int ((f.2.getD bond.1 0 : Nat) : Int)), some (.int ((f.2.getD (wb.m + bond.2) 0 : Nat) : Int)), none] = [some (V.ref a), some (.int ((wb.m : Int) + (wb.n : Int) - 1)), some (.ref fl), some (.int (i : Int)), some (.ref c), some (.ref lo), some (.int ((xs.length : Int) - (i : Int) - 1)), y7, y8, y9, y10, none] ∧ Same H2 G ∧ Same G H5 ∧ G lo = none ∧ H5 lo = some (.lst vs) ∧ Paired (TAt K G) vs (((fsAt wb i).take (j + 1)).flatMap (treeStep wb.m (wb.m + wb.n - 1) (wb.ties.length - i - 1) bond)) := by
            intro H5 q1 q2 q3
            refine ⟨_, _, _, _, G4, vs4, rfl, k1, q1, kn, q2, ?_⟩
            rw [hsucc]
            unfold treeStep
            rw [if_neg q3, List.append_nil]
            exact hp3
          generalize upd H4 u (.tup [.int ((f.2.getD bond.1 0 : Nat) : Int), .int ((f.2.getD (wb.m + bond.2) 0 : Nat) : Int)]) = H5 at k3 hv5 hbT5 hmk5 ⊢
          refine ⟨.int _, rfl, .int _, rfl, _, _, rfl, rfl, _, rfl, ite2 (fun z1 => ?_) (fun z1 => ?_)⟩
          · refine ⟨.ref b, rfl, b, _, rfl, .inr hbT5, .int _, rfl, _, _, rfl, rfl, _, rfl, ite2 (fun z2 => ?_) (fun z2 => ?_)⟩
            · have hz1 : f.2.getD bond.1 0 ≠ f.2.getD (wb.m + bond.2) 0 := fun h => by
                have z1' : (!decide (((f.2.getD bond.1 0 : Nat) : Int) = ((f.2.getD (wb.m + bond.2) 0 : Nat) : Int))) = true := z1
                rw [h, decide_eq_true rfl] at z1'
                cases z1'
              have hz2 : f.1.length < wb.m + wb.n - 1 := by
                have := of_decide_eq_true z2
                omega
              have hS2 : (if f.2.getD bond.1 0 ≠ f.2.getD (wb.m + bond.2) 0 ∧ f.1.length < wb.m + wb.n - 1 then [(f.1 ++ [bond], f.2.map fun own => if own = f.2.getD (wb.m + bond.2) 0 then f.2.getD bond.1 0 else own)] else []) = [(f.1 ++ [bond], f.2.map fun own => if own = f.2.getD (wb.m + bond.2) 0 then f.2.getD bond.1 0 else own)] := if_pos ⟨hz1, hz2⟩
              have hvl4 : vs4.length < sizeLine := by
                have e9 := Paired.length hp3
                rw [hsucc] at *
                unfold treeStep at htot
                rw [← List.append_assoc, List.length_append] at htot
                exact small1000 (by omega)
              refine ⟨.ref lo, rfl, .inl ⟨rfl, _, SqL.of hv5⟩, .ref b, rfl, .ref c, rfl, by show 1 ≤ sizeLine; decide, fun u2 hu2 => ?_⟩
              have E1 : Ext G4 H5 (upd G4 u2 (.tup [.ref c])) (upd H5 u2 (.tup [.ref c])) := (Ext.rfl' k3).new hu2
              have hbond4 := hbondD.same (k1.trans E1.gg)
              have hbA4 := hbA.same (k1.trans E1.gg)
              have hbd9 : bxs.length + [V.ref c].length ≤ sizeLine := by
                rw [hbl]
                exact Nat.le_of_lt (small1000 (n := f.1.length + 1) (by omega))
              have eTs : (f.1 ++ [bond]).map encP = f.1.map encP ++ [encP bond] := by rw [List.map_append]; rfl
              refine ⟨b, u2, _, _, rfl, rfl, same_seqT E1.hh hbT5, st_new, hbd9, fun zz => ?_, fun _ zz => (by cases zz), fun _ _ pp hpp => ?_⟩
              have E2 := E1
              have hrr : Dp K (upd G4 u2 (.tup [.ref c])) (.ref u2) (encTs (f.1 ++ [bond])) := by
                refine Dp.tup (xs := bxs ++ [.ref c]) (by rw [zz]; exact st_new) ?_
                rw [eTs]
                exact hbA4.app (.one hbond4)
              generalize (upd H5 u2 (.tup [.ref c])) = H6 at E2 ⊢
              generalize (upd G4 u2 (.tup [.ref c])) = G6 at E2 hrr
              generalize u2 = rr at hrr ⊢
              rotate_left
              have E2 := E1.new (o := .tup (bxs ++ [.ref c])) hpp
              have hrr : Dp K (upd (upd G4 u2 (.tup [.ref c])) pp (.tup (bxs ++ [.ref c]))) (.ref pp) (encTs (f.1 ++ [bond])) := by
                refine Dp.tup (xs := bxs ++ [.ref c]) st_new ?_
                rw [eTs]
                have s9 := same_new (E1.gh.free hpp) (.tup (bxs ++ [V.ref c]))
                exact (hbA4.same s9).app (.one (hbond4.same s9))
              generalize (upd (upd H5 u2 (.tup [.ref c])) pp (.tup (bxs ++ [.ref c]))) = H6 at E2 ⊢
              generalize (upd (upd G4 u2 (.tup [.ref c])) pp (.tup (bxs ++ [.ref c]))) = G6 at E2 hrr
              generalize pp = rr at hrr ⊢
              all_goals
                have hmk6 := same_seqT E2.hh hmk5
                refine ⟨.ref mk, rfl, mk, rfl, ⟨_, hmk6⟩, fun D hD => lc_filt (walk_tup (xs := (iN f.2).map V.int)) (fun q => f.2[q]?.bind fun own => some (V.int ((if own = f.2.getD (wb.m + bond.2) 0 then f.2.getD bond.1 0 else own : Nat) : Int))) (by rw [List.length_map, iN_len]; omega) hD (fun H' s => same_seqT s hmk6) ?_ ?_⟩
                · intro q x H7 H7' hq s7 hD1 hY R1 R0 g1' g0'
                  obtain ⟨rfl, hx⟩ := hY
                  obtain ⟨n, hn, rfl⟩ := iN_at hx
                  rw [hn] at g1'
                  refine ⟨rfl, .int (n : Int), rfl, .int _, rfl, rfl, _, rfl, ite2 (fun z3 => ?_) (fun z3 => ?_)⟩
                  · have e5 := of_decide_eq_true ((decN _ _).symm.trans z3)
                    exact ⟨.int _, rfl, g1' _ _ (by show some (V.int _) = _; rw [if_pos e5]) (Same.refl _)⟩
                  · exact ⟨.int _, rfl, g1' _ _ (by show some (V.int _) = _; rw [if_neg (fun e5 => z3 ((decN _ _).trans (decide_eq_true e5)))]) (Same.refl _)⟩
                · intro H7 s7 hD7
                  have e7 : ((iN f.2).map V.int).length = f.2.length := by rw [List.length_map, iN_len]
                  rw [e7, fm_map] at hD7
                  have e8 : (f.2.map fun own => V.int ((if own = f.2.getD (wb.m + bond.2) 0 then f.2.getD bond.1 0 else own : Nat) : Int)) = (iN (f.2.map fun own => if own = f.2.getD (wb.m + bond.2) 0 then f.2.getD bond.1 0 else own)).map V.int := by
                    unfold iN
                    rw [List.map_map, List.map_map]
                    rfl
                  rw [e8] at hD7
                  refine ⟨D, _, rfl, .inl ⟨SqL.of hD7, fun m2 hm2 => ?_⟩⟩
                  have E3 := (E2.same s7).new (o := .tup ((iN (f.2.map fun own => if own = f.2.getD (wb.m + bond.2) 0 then f.2.getD bond.1 0 else own)).map V.int)) hm2
                  refine ⟨by show 2 ≤ sizeLine; decide, fun e3 he3 => ?_⟩
                  have E4 := E3.new (o := .tup [.ref rr, .ref m2]) he3
                  refine ⟨lo, vs4, _, rfl, rfl, E4.hh _ _ hv5, hvl4, ?_⟩
                  have kn4 := E4.none (some_ne hv5) kn
                  refine ⟨_, _, _, _, _, vs4 ++ [.ref e3], rfl, k1.trans E4.gg, same_mut E4.gh kn4, kn4, upd_same, ?_⟩
                  rw [hsucc]
                  unfold treeStep
                  rw [hS2, ← List.append_assoc]
                  refine paired_snoc ?_ (paired_imp (fun _ _ h => h.same E4.gg) hp3)
                  have sg3 := same_new ((E2.same s7).gh.free hm2) (.tup ((iN (f.2.map fun own => if own = f.2.getD (wb.m + bond.2) 0 then f.2.getD bond.1 0 else own)).map V.int))
                  have sg4 := same_new (E3.gh.free he3) (.tup [V.ref rr, V.ref m2])
                  exact ⟨e3, rr, m2, rfl, st_new, (hrr.same sg3).same sg4, same_seqT sg4 st_new⟩
            · refine fin0 H5 k3 hv5 fun q => z2 (decide_eq_true ?_)
              omega
          · refine iteF (fin0 H5 k3 hv5 fun q => z1 ?_)
            show (!decide (((f.2.getD bond.1 0 : Nat) : Int) = ((f.2.getD (wb.m + bond.2) 0 : Nat) : Int))) = true
            exact bneN q.1
      · obtain ⟨y7, y8, y9, y10, G, vs, rfl, g1, g2, gn, hvs, hpv⟩ := p
        rw [huf, List.take_length, ← hstep] at hpv
        exact ⟨.ref lo, rfl, _, _, _, _, _, _, _, _, lo, vs, rfl, (s12.trans g1).trans g2, hvs, paired_imp (fun _ _ h => h.same g2) hpv⟩
    · obtain ⟨y3, y4, y5, y6, y7, y8, y9, y10, fl, us, rfl, s1, hfl, hus⟩ := p
      rw [hxl] at hus
      obtain ⟨bs, hbs, hbD⟩ := tat_split hus
      have hul : us.length = (fsAt wb wb.ties.length).length := Paired.length hus
      have hbl : bs.length = us.length := by rw [hbD.len, List.length_map, hul]
      have h512 := hlen9 wb.ties.length (Nat.le_refl _)
      refine ⟨.ref fl, rfl, fl, rfl, ⟨_, SqL.of hfl⟩, fun D hD => lc_filt (walk_list (xs := us)) (fun i => (bs.zip (fsAt wb wb.ties.length))[i]?.bind fun z => if (z.2.1.length == wb.m + wb.n - 1) = true then some z.1 else none) (by omega) hD (fun H' s => SqL.of (s _ _ hfl)) ?_ ?_⟩
      · intro i x H2 H2' hi s2 hD1 hY R1 R0 g1 g0
        obtain ⟨rfl, hx⟩ := hY
        have hif : i < (fsAt wb wb.ties.length).length := by omega
        have ez : (us.zip (fsAt wb wb.ties.length))[i]? = some (x, (fsAt wb wb.ties.length)[i]) := by
          rw [List.getElem?_zip_eq_some]
          exact ⟨hx, List.getElem?_eq_getElem hif⟩
        obtain ⟨bv, hbv, e, c, mk, q1, q2, q3, q4⟩ := paired_at hbs ez
        replace q1 : x = .ref e := q1
        subst q1 q2
        have ew : (bs.zip (fsAt wb wb.ties.length))[i]? = some (.ref c, (fsAt wb wb.ties.length)[i]) := by
          rw [List.getElem?_zip_eq_some]
          exact ⟨hbv, List.getElem?_eq_getElem hif⟩
        rw [ew] at g1 g0
        generalize (fsAt wb wb.ties.length)[i] = f at g1 g0 q4
        obtain ⟨c', cxs, ec, hcT, hcA⟩ := dp_ties (q4.same s2)
        cases ec
        have hcl : cxs.length = f.1.length := by rw [hcA.len, List.length_map]
        have q3' := same_seqT s2 q3
        refine ⟨rfl, .ref e, rfl, e, _, 0, .ref c, rfl, rfl, q3', atI_nat (j := 0) rfl, c, cxs, rfl, .inr hcT, .int _, rfl, rfl, _, rfl, ?_⟩
        have ed : decide (V.int ((cxs.length : Nat) : Int) = V.int ((wb.m : Int) + (wb.n : Int) - 1)) = (f.1.length == wb.m + wb.n - 1) := by
          rw [decI, hcl]
          by_cases z : f.1.length = wb.m + wb.n - 1
          · rw [decide_eq_true (by omega), z]
            exact (beq_self_eq_true _).symm
          · rw [decide_eq_false (by omega)]
            exact (beq_eq_false_iff_ne.mpr z).symm
        rw [ed]
        refine ite2 (fun z => ?_) (fun z => ?_)
        · refine ⟨.ref e, rfl, e, _, 0, .ref c, rfl, rfl, q3', atI_nat (j := 0) rfl, g1 _ _ ?_ (Same.refl _)⟩
          show (if (f.1.length == wb.m + wb.n - 1) = true then some (V.ref c) else none) = _
          rw [if_pos z]
        · refine g0 ?_ _ (Same.refl _)
          show (if (f.1.length == wb.m + wb.n - 1) = true then some (V.ref c) else none) = _
          rw [if_neg z]
      · intro H2 s2 hD2
        have ezl : us.length = (bs.zip (fsAt wb wb.ties.length)).length := by rw [List.length_zip, hbl, hul, Nat.min_self]
        rw [ezl, fm_if (bs.zip (fsAt wb wb.ties.length)) (fun z => z.2.1.length == wb.m + wb.n - 1) (fun z => z.1)] at hD2
        have hF := (dp_filter (fun f => f.1.length == wb.m + wb.n - 1) hbD).same s2
        have emap : ((fsAt wb wb.ties.length).filter fun f => f.1.length == wb.m + wb.n - 1).map (fun f => encTs f.1) = (trees wb).map encTs := by
          rw [trees_fs, List.map_map]
          rfl
        rw [emap] at hF
        refine ⟨D, _, _, rfl, SqL.of hD2, hF, ?_, .inl ?_, ?_, fun cs p hcp _ hpn => ?_⟩
        · intro d1 h1 d2 h2
          obtain ⟨k1, _, rfl⟩ := List.mem_map.mp h1
          obtain ⟨k2, _, rfl⟩ := List.mem_map.mp h2
          exact alike_ts k1 k2
        · intro d1 h1
          obtain ⟨k1, hk1, rfl⟩ := List.mem_map.mp h1
          have hne : k1 ≠ [] := by
            rw [trees_fs] at hk1
            obtain ⟨g, hg, rfl⟩ := List.mem_map.mp hk1
            have hgl := (List.mem_filter.mp hg).2
            have hgl2 : g.1.length = wb.m + wb.n - 1 := by simpa using hgl
            intro z
            rw [z] at hgl2
            have : (0 : Nat) = wb.m + wb.n - 1 := hgl2
            omega
          cases k1 with
          | nil => exact absurd rfl hne
          | cons x r => exact ⟨_, _, rfl⟩
        · intro d1 h1
          obtain ⟨k1, _, rfl⟩ := List.mem_map.mp h1
          exact depth_ts k1
        · have hmem : ∀ b ∈ cs, Dp K H2 b.1 b.2 := fun b hb => hF.zip_mem b (hcp.mem_iff.mp hb)
          have hDc := DpAll.of_zip hmem
          have hsnd : (cs.map Prod.snd).Perm ((trees wb).map encTs) := by
            have h1 := hcp.map Prod.snd
            have h2 : ((((bs.zip (fsAt wb wb.ties.length)).filter fun z => z.2.1.length == wb.m + wb.n - 1).map fun z => z.1).zip ((trees wb).map encTs)).map Prod.snd = (trees wb).map encTs := List.map_snd_zip (Nat.le_of_eq hF.len.symm)
            rw [h2] at h1
            exact h1
          obtain ⟨es, he1, he2⟩ := perm_map_lift encTs hsnd (trees wb) rfl
          rw [he1] at hDc
          have nn := same_new hpn (.lst (cs.map Prod.fst))
          exact q p _ es _ ((s1.trans s2).trans nn) upd_same (hDc.same nn) he2
end
end Hk

set_option Elab.async false
set_option linter.all false
set_option maxRecDepth 100000
set_option maxHeartbeats 4000000
namespace Hk
open PySem PySem.Spec PySem.W PyProof.Rows L2 Hm
/-- without what stands at p -/
def hide (H : Hp) (p : Addr) : Hp := fun a => if a = p then none else H a
theorem hide_same (H : Hp) (p : Addr) : Same (hide H p) H := fun b o q => by
  unfold hide at q
  by_cases e : b = p
  · rw [if_pos e] at q; cases q
  · rw [if_neg e] at q; exact q
theorem hide_none (H : Hp) (p : Addr) : hide H p p = none := if_pos rfl
theorem hide_at {H : Hp} {p b : Addr} (h : b ≠ p) : hide H p b = H b := if_neg h
/-! ### the ties' dict -/
def encK (t : Nat × Nat) : List Key := keyI [(t.1 : Int), (t.2 : Int)]
theorem encK_inj {s t : Nat × Nat} (h : encK s = encK t) : s = t := by
  have h1 := congrArg (fun l => l.map kV) h
  unfold encK at h1
  simp only [kV_keyI] at h1
  simp at h1
  exact Prod.ext (by omega) (by omega)
def putN (ks : List (Nat × Nat)) (k : Nat × Nat) : List (Nat × Nat) := if k ∈ ks then ks else ks ++ [k]
theorem mem_putN {ks : List (Nat × Nat)} {k j : Nat × Nat} : j ∈ putN ks k ↔ j = k ∨ j ∈ ks := by
  unfold putN
  by_cases h : k ∈ ks
  · rw [if_pos h]
    exact ⟨.inr, fun e => e.elim (fun e => e ▸ h) id⟩
  · rw [if_neg h, List.mem_append, List.mem_singleton]
    exact ⟨fun e => e.symm, fun e => e.symm⟩
theorem nodup_putN {ks : List (Nat × Nat)} {k : Nat × Nat} (h : ks.Nodup) : (putN ks k).Nodup := by
  unfold putN
  by_cases c : k ∈ ks
  · rw [if_pos c]; exact h
  · rw [if_neg c, List.nodup_append]
    exact ⟨h, by simp, fun a ha b hb => by rw [List.mem_singleton] at hb; subst hb; exact fun e => c (e ▸ ha)⟩
theorem len_putN (ks : List (Nat × Nat)) (k : Nat × Nat) : (putN ks k).length ≤ ks.length + 1 := by
  unfold putN
  split
  · omega
  · rw [List.length_append, List.length_singleton]; omega
def BondsAt (H : Hp) (d : Addr) (ks : List (Nat × Nat)) : Prop := ∃ kvs : List (List Key × V), H d = some (.dT kvs) ∧ kvs.map (·.1) = ks.map encK
theorem keys_putT (kvs : List (List Key × V)) (ks : List (Nat × Nat)) (h : kvs.map (·.1) = ks.map encK) (k : Nat × Nat) (v : V) : (putK kvs (encK k) v).map (·.1) = (putN ks k).map encK := by
  have hm : (kvs.any fun kv => decide (kv.1 = encK k)) = true ↔ k ∈ ks := by
    rw [List.any_eq_true]
    constructor
    · rintro ⟨kv, h1, h2⟩
      have h3 : kv.1 ∈ kvs.map (·.1) := List.mem_map.mpr ⟨kv, h1, rfl⟩
      rw [h] at h3
      obtain ⟨j, hj, e⟩ := List.mem_map.mp h3
      rw [of_decide_eq_true h2] at e
      exact encK_inj e ▸ hj
    · intro hk
      have h3 : encK k ∈ kvs.map (·.1) := by rw [h]; exact List.mem_map.mpr ⟨k, hk, rfl⟩
      obtain ⟨kv, h1, h2⟩ := List.mem_map.mp h3
      exact ⟨kv, h1, decide_eq_true h2⟩
  unfold putK putN
  by_cases c : k ∈ ks
  · rw [if_pos c, if_pos (hm.mpr c), List.map_map, ← h]
    apply List.map_congr_left
    intro kv _
    show (if kv.1 = encK k then (kv.1, v) else kv).1 = kv.1
    split <;> rfl
  · rw [if_neg c, if_neg (fun z => c (hm.mp z)), List.map_append, List.map_append, h]
    rfl
theorem BondsAt.put {H : Hp} {d b : Addr} {ks : List (Nat × Nat)} (h : BondsAt H d ks) (k : Nat × Nat) (v : V) (hb : H b = some (.tup [.int (k.1 : Int), .int (k.2 : Int)])) (hl : ks.length ≤ 1000) :
    ∃ kvs', DPut H d (.ref b) v (upd H d (.dT kvs')) ∧ BondsAt (upd H d (.dT kvs')) d (putN ks k) := by
  obtain ⟨kvs, h1, h2⟩ := h
  refine ⟨putK kvs (encK k) v, DPut.t h1 ?_ ?_, putK kvs (encK k) v, upd_same, keys_putT kvs ks h2 k v⟩
  · rw [hb]
    unfold encK
    rw [kV_keyI]
    rfl
  · have := congrArg List.length h2
    rw [List.length_map, List.length_map] at this
    exact small1000 (by omega)
theorem BondsAt.off {H : Hp} {d c : Addr} {ks : List (Nat × Nat)} {o : HO} (h : BondsAt H d ks) (n : d ≠ c) : BondsAt (upd H c o) d ks := by
  obtain ⟨kvs, h1, h2⟩ := h
  exact ⟨kvs, by rw [upd_ne n]; exact h1, h2⟩
theorem BondsAt.same {H H' : Hp} {d : Addr} {ks : List (Nat × Nat)} (h : BondsAt H d ks) (s : Same H H') : BondsAt H' d ks := by
  obtain ⟨kvs, h1, h2⟩ := h
  exact ⟨kvs, s _ _ h1, h2⟩
/-- the ties join all that is told -/
def Sound (ks : List (Nat × Nat)) (hs ts : List Nat) : Prop := ∀ f : Nat → Nat → Bool, (∀ k ∈ ks, f 0 k.1 = f 1 k.2) → (∀ h ∈ hs, f 0 h = f 0 0) ∧ (∀ t ∈ ts, f 1 t = f 0 0)
theorem Sound.start : Sound [(0, 0)] [0] [0] := fun f h => ⟨fun x hx => by rw [List.mem_singleton.mp hx], fun x hx => by rw [List.mem_singleton.mp hx]; exact (h (0, 0) List.mem_cons_self).symm⟩
theorem Sound.hand {ks : List (Nat × Nat)} {hs ts : List Nat} (h : Sound ks hs ts) {a b : Nat} (hb : b ∈ ts) : Sound (putN ks (a, b)) (hs ++ [a]) ts := fun f hf => by
  have h1 := h f fun k hk => hf k (mem_putN.mpr (.inr hk))
  refine ⟨fun x hx => ?_, h1.2⟩
  rcases List.mem_append.mp hx with hx | hx
  · exact h1.1 x hx
  · rw [List.mem_singleton.mp hx, hf (a, b) (mem_putN.mpr (.inl rfl))]
    exact h1.2 b hb
theorem Sound.task {ks : List (Nat × Nat)} {hs ts : List Nat} (h : Sound ks hs ts) {a b : Nat} (ha : a ∈ hs) : Sound (putN ks (a, b)) hs (ts ++ [b]) := fun f hf => by
  have h1 := h f fun k hk => hf k (mem_putN.mpr (.inr hk))
  refine ⟨h1.1, fun x hx => ?_⟩
  rcases List.mem_append.mp hx with hx | hx
  · exact h1.2 x hx
  · rw [List.mem_singleton.mp hx, ← hf (a, b) (mem_putN.mpr (.inl rfl))]
    exact h1.1 a ha
theorem Sound.more {ks : List (Nat × Nat)} {hs ts : List Nat} (h : Sound ks hs ts) (k : Nat × Nat) : Sound (putN ks k) hs ts := fun f hf => h f fun k hk => hf k (mem_putN.mpr (.inr hk))
theorem Sound.perm {ks ks' : List (Nat × Nat)} {hs ts : List Nat} (h : Sound ks hs ts) (p : ks'.Perm ks) : Sound ks' hs ts := fun f hf => h f fun k hk => hf k (p.mem_iff.mpr hk)
theorem paired_perm {α β : Type} {F : α → β → Prop} : ∀ {l m : List α}, l.Perm m → ∀ zs : List β, Paired F m zs → ∃ zs' : List β, Paired F l zs' ∧ zs'.Perm zs := by
  intro l m h
  induction h with
  | nil => intro zs e; cases e; exact ⟨[], .nil, .refl _⟩
  | cons x h ih =>
    intro zs e
    cases e with
    | cons e1 e2 =>
      obtain ⟨zs', h1, h2⟩ := ih _ e2
      exact ⟨_, .cons e1 h1, h2.cons _⟩
  | swap x y l =>
    intro zs e
    cases e with
    | cons e1 e2 =>
      cases e2 with
      | cons e2 e3 => exact ⟨_, .cons e2 (.cons e1 e3), .swap _ _ _⟩
  | trans h1 h2 ih1 ih2 =>
    intro zs e
    obtain ⟨zs1, q1, q2⟩ := ih2 zs e
    obtain ⟨zs2, q3, q4⟩ := ih1 zs1 q1
    exact ⟨zs2, q3, q4.trans q2⟩
theorem Tin.off {H : Hp} {p b : Addr} {c : Nat} {o : HO} (h : Tin H p c) (n : p ≠ b) : Tin (upd H b o) p c := by
  obtain ⟨x, y, k, h1, h2⟩ := h
  exact ⟨x, y, k, by rw [upd_ne n]; exact h1, h2⟩
theorem Tin.mono {H : Hp} {p : Addr} {c c' : Nat} (h : Tin H p c) (n : c ≤ c') : Tin H p c' := by
  obtain ⟨x, y, k, h1, h2, h3⟩ := h
  exact ⟨x, y, k, h1, h2, by omega⟩
theorem Tin.tup_ne {H : Hp} {p b : Addr} {c : Nat} {xs : List V} (h : Tin H p c) (hb : H b = some (.tup xs)) : b ≠ p := by
  obtain ⟨x, y, k, h1, _⟩ := h
  rintro rfl
  rw [h1] at hb
  cases hb
theorem pos32 : (0 : Int) < (if (3 - 1 : Int) > 1 then (3 - 1 : Int) else 1) := by decide
theorem dp_paired {K : Frag} {H : Hp} : ∀ {us : List V} {zs : List (Nat × Nat)}, DpAll K H us (zs.map encP) → Paired (fun v z => Dp K H v (encP z)) us zs
  | _, [], h => by cases h; exact .nil
  | _, z :: zs, h => by
    cases h with
    | cons h1 h2 => exact .cons h1 (dp_paired h2)
theorem encP_rg (a b : Nat) : encP (a, b) = tupD [(a : Int), (b : Int)] := rfl
def Conn (w : Web) : Prop := ∀ f : Nat → Nat → Bool, (∀ k ∈ w.ties, f 0 k.1 = f 1 k.2) → (∀ h, h < w.m → f 0 h = f 0 0) ∧ (∀ t, t < w.n → f 1 t = f 0 0)
/-- what the drawn web is -/
structure Drawn (w : Web) : Prop where
  m1 : 1 ≤ w.m
  m3 : w.m ≤ 3
  n1 : 1 ≤ w.n
  n3 : w.n ≤ 3
  rg : ∀ t ∈ w.ties, t.1 < w.m ∧ t.2 < w.n
  asc : w.ties.Pairwise fun a b => pairLt a b = true
  conn : Conn w
section
variable {P : Program} {w : World} {K : PySem.W.Frag} {mg : Str → Option Value} {base : Heap}
/-! ### _law_net -/
abbrev st_net : Stmt := topS 44
abbrev N_net : List Str := ["_law_tin", "_law_most_so", "_law_m", "_law_n", "_law_bonds_so", "_law_hands_so", "_law_tasks_so", "_law_own", "_law_left_so", "_law_lap"]
theorem sc_net : FnScope N_net ["_law_tin", "_law_most_so"] (defScope st_net) := ⟨rfl, rfl, rfl, by decide +kernel, rfl, by decide +kernel, by decide +kernel⟩
def sp_net (K : PySem.W.Frag) : Sp := fun vs H Q _ => ∃ (p : Addr) (c : Nat), vs = [.ref p, .int 3] ∧ Tin H p c ∧ c ≤ 100 ∧
  ∀ (r : Addr) (H' G' : Hp) (wb : Web), Same G' H' → G' p = none → Dp K G' (.ref r) (encW wb) → Drawn wb → Tin H' p (c + 60) → Q (.ref r) H'
theorem ok_net (S : Src K mg "_law_net" st_net ["_law_tin", "_law_most_so"]) (B : Blt mg) (C1 : Cal P w K mg base 1 "_law_take" ["_law_tin", "_law_below_so"] sp_take)
    (C2 : Cal P w K mg base 2 "_law_pick" ["_law_tin", "_law_goods_so", "_law_count_so"] sp_pick) (C3 : Cal P w K mg base 2 "_law_of" ["_law_tin", "_law_goods_so"] sp_of) : Cal P w K mg base 3 "_law_net" ["_law_tin", "_law_most_so"] (sp_net K) := by
  refine S.cal sc_net (fun vs H Q E h => ?_) (fun f cdv A outer s H vs Q E hr h => ?_)
  · obtain ⟨p, c, rfl, _⟩ := h
    rfl
  · obtain ⟨p, c, rfl, ht, hc, q⟩ := h
    have hr1 := hr.mono (show 1 ≤ 2 by decide)
    refine ⟨_, pss_cons (ps_par (i := 2) (j := 3) rfl sc_net.nd rfl rfl (by decide) rfl rfl (pa_cons (pe_op op_add pe_int (pe_cal C1 hr1 (by rfl) (pa_cons (pv 0) (pa_cons (pv 1) pa_nil)))) (pa_cons (pe_op op_add pe_int (pe_cal C1 hr1 (by rfl) (pa_cons (pv 0) (pa_cons (pv 1) pa_nil)))) pa_nil)) (by rfl))
      (pss_cons (ps_if (pt_cmp (pc_gt (pe_cal C1 hr1 (by rfl) (pa_cons (pv 0) (pa_cons pe_int pa_nil))) pe_int))
        (pss_one (ps_par (i := 2) (j := 3) rfl sc_net.nd rfl rfl (by decide) rfl rfl
          (pa_cons (pe_op op_add pe_int (pe_op op_mod (pe_callTy call_int1 (by rfl) B.int PyProof.Rows.boot_int (pa_cons (pv 2) pa_nil)) (pe_callB (call_max2 rfl) (by rfl) B.max boot_max (pa_cons pe_int (pa_cons (pe_op op_sub (pv 1) pe_int) pa_nil)))))
          (pa_cons (pe_op op_add pe_int (pe_op op_mod (pe_callTy call_int1 (by rfl) B.int PyProof.Rows.boot_int (pa_cons (pv 3) pa_nil)) (pe_callB (call_max2 rfl) (by rfl) B.max boot_max (pa_cons pe_int (pa_cons (pe_op op_sub (pv 1) pe_int) pa_nil))))) pa_nil)) (by rfl))) pss_nil)
      (pss_cons (ps_par3 (i := 4) (j := 5) (l := 6) rfl sc_net.nd rfl rfl rfl (by decide) (by decide) (by decide) rfl rfl rfl
        (pa_cons (pe_dispT (hu_of hr) (pe_tup (pa_cons pe_int (pa_cons pe_int pa_nil))) pe_bl) (pa_cons (pe_lst (pa_cons pe_int pa_nil)) (pa_cons (pe_lst (pa_cons pe_int pa_nil)) pa_nil))) (by rfl))
      (pss_cons (ps_set (i := 8) sc_net.nd rfl (.inl rfl) (pe_op op_cat
        (pe_lc (own := [("_law_own", 7)]) (g := gName 7) rfl sc_net.nd (pi_range2 (by rfl) B.range (pa_cons pe_int (pa_cons (pv 2) pa_nil))) (blkOk_by (own := [("_law_own", 7)]) (N := N_net) (sc := defScope st_net) (by decide +kernel))
          (fun _ _ _ _ _ => pg_name (i := 7) sc_net.nd rfl (Or.inl rfl)) (fun _ _ _ _ _ => pts_nil) (fun _ _ _ _ _ => pe_tup (pa_cons pe_int (pa_cons (pv 7) pa_nil))))
        (pe_lc (own := [("_law_own", 7)]) (g := gName 7) rfl sc_net.nd (pi_range2 (by rfl) B.range (pa_cons pe_int (pa_cons (pv 3) pa_nil))) (blkOk_by (own := [("_law_own", 7)]) (N := N_net) (sc := defScope st_net) (by decide +kernel))
          (fun _ _ _ _ _ => pg_name (i := 7) sc_net.nd rfl (Or.inl rfl)) (fun _ _ _ _ _ => pts_nil) (fun _ _ _ _ _ => pe_tup (pa_cons pe_int (pa_cons (pv 7) pa_nil))))))
      (pss_cons (ps_for PassesOwn.never rfl (pi_list (pe_cal C2 hr (by rfl) (pa_cons (pv 0) (pa_cons (pv 8) (pa_cons (pe_len B (pv 8)) pa_nil))))) (pg_name (i := 7) sc_net.nd rfl (.inl rfl))
        (pss_one (ps_if (pt_cmpR op_eq (pe_ix (ixT K) (pv 7) pe_int (fun _ _ => rfl)) pe_int (nomark _))
          (pss_cons (ps_asg pe_bl (pg_sub (pv 4) (pe_tup (pa_cons (pe_ix (ixT K) (pv 7) pe_int (fun _ _ => rfl)) (pa_cons (pe_cal C3 hr (by rfl) (pa_cons (pv 0) (pa_cons (pv 6) pa_nil))) pa_nil))) (L2.set_dict (hu_of hr))))
            (pss_one (ps_expr (pe_bm PySem.F.plainAttrs_list PySem.F.slot_list_append PySem.F.type_list_append mt_append (pv 5) (pa_cons (pe_ix (ixT K) (pv 7) pe_int (fun _ _ => rfl)) pa_nil)))))
          (pss_cons (ps_asg pe_bl (pg_sub (pv 4) (pe_tup (pa_cons (pe_cal C3 hr (by rfl) (pa_cons (pv 0) (pa_cons (pv 5) pa_nil))) (pa_cons (pe_ix (ixT K) (pv 7) pe_int (fun _ _ => rfl)) pa_nil))) (L2.set_dict (hu_of hr))))
            (pss_one (ps_expr (pe_bm PySem.F.plainAttrs_list PySem.F.slot_list_append PySem.F.type_list_append mt_append (pv 6) (pa_cons (pe_ix (ixT K) (pv 7) pe_int (fun _ _ => rfl)) pa_nil))))))))
      (pss_cons (ps_for PassesOwn.never rfl (pi_range1 (by rfl) B.range (pa_cons (pe_cal C1 hr1 (by rfl) (pa_cons (pv 0) (pa_cons (pe_op op_add (pe_op op_mul (pv 2) (pv 3)) pe_int) pa_nil))) pa_nil)) (pg_name (i := 9) sc_net.nd rfl (.inl rfl))
        (pss_one (ps_asg pe_bl (pg_sub (pv 4) (pe_tup (pa_cons (pe_cal C1 hr1 (by rfl) (pa_cons (pv 0) (pa_cons (pv 2) pa_nil))) (pa_cons (pe_cal C1 hr1 (by rfl) (pa_cons (pv 0) (pa_cons (pv 3) pa_nil))) pa_nil))) (L2.set_dict (hu_of hr))))))
      (pss_one (ps_ret (pe_tup (pa_cons (pv 2) (pa_cons (pv 3) (pa_cons (pe_callTy (tupOf K) (by rfl) B.tuple boot_tuple (pa_cons (pe_callB (cr_sortedDT rfl hr.units) (by rfl) B.sorted PyProof.Rows.boot_sorted (pa_cons (pv 4) pa_nil)) pa_nil)) pa_nil))))))))))), ?_⟩
    refine ⟨.ref p, rfl, .int 3, rfl, p, 3, c, rfl, ht, by decide, by decide, by omega, fun r1 z1 hr1' ht1 => ⟨_, _, rfl, rfl, .ref p, rfl, .int 3, rfl, p, 3, c + 1, rfl, ht1, by decide, by decide, by omega, fun r2 z2 hr2' ht2 => ⟨_, _, rfl, rfl, .int ((1 + r1 : Nat) : Int), .int ((1 + r2 : Nat) : Int), ?_, ?_⟩⟩⟩
    · show [V.int (1 + (r1 : Int)), V.int (1 + (r2 : Int))] = _
      rw [show (1 : Int) + (r1 : Int) = ((1 + r1 : Nat) : Int) by omega, show (1 : Int) + (r2 : Int) = ((1 + r2 : Nat) : Int) by omega]
    · refine ⟨.ref p, rfl, p, 10, c + 1 + 1, rfl, ht2, by decide, by decide, by omega, fun r3 z3 hr3' ht3 => ?_⟩
      generalize upd (upd (upd H p z1) p z2) p z3 = H3 at ht3 ⊢
      refine ⟨_, _, rfl, rfl, _, rfl, ite2 (fun z => ?_) (fun z => ?_)⟩
      have eif : (if (3 - 1 : Int) > 1 then (3 - 1 : Int) else 1) = 2 := by decide
      refine ⟨.int _, rfl, .inl ⟨_, rfl, .int 3, rfl, _, _, rfl, rfl, _, _, rfl, _, _, rfl, rfl, pos32, _, _, rfl, rfl, .int _, rfl, .inl ⟨_, rfl, .int 3, rfl, _, _, rfl, rfl, _, _, rfl, _, _, rfl, rfl, pos32, _, _, rfl, rfl, .int ((2 + (1 + r1) % 2 : Nat) : Int), .int ((2 + (1 + r2) % 2 : Nat) : Int), ?_, ?_⟩⟩⟩
      · show [V.int (2 + ((1 + r1 : Nat) : Int) % (if (3 - 1 : Int) > 1 then (3 - 1 : Int) else 1)), V.int (2 + ((1 + r2 : Nat) : Int) % (if (3 - 1 : Int) > 1 then (3 - 1 : Int) else 1))] = _
        rw [eif]
        rfl
      have hm : 1 ≤ 2 + (1 + r1) % 2 ∧ 2 + (1 + r1) % 2 ≤ 3 := by omega
      have hn : 1 ≤ 2 + (1 + r2) % 2 ∧ 2 + (1 + r2) % 2 ≤ 3 := by omega
      show tSeq _ _ _ [some (V.ref p), some (.int 3), some (.int ((2 + (1 + r1) % 2 : Nat) : Int)), some (.int ((2 + (1 + r2) % 2 : Nat) : Int)), none, none, none, none, none, none] H3
      generalize (2 + (1 + r1) % 2) = m at hm ⊢
      generalize (2 + (1 + r2) % 2) = n at hn ⊢
      rotate_left
      have hm : 1 ≤ 1 + r1 ∧ 1 + r1 ≤ 3 := by omega
      have hn : 1 ≤ 1 + r2 ∧ 1 + r2 ≤ 3 := by omega
      show tSeq _ _ _ [some (V.ref p), some (.int 3), some (.int ((1 + r1 : Nat) : Int)), some (.int ((1 + r2 : Nat) : Int)), none, none, none, none, none, none] H3
      generalize (1 + r1) = m at hm ⊢
      generalize (1 + r2) = n at hn ⊢
      all_goals
        refine (fun d hd => ⟨by show 2 ≤ sizeLine; decide, fun u hu => ?_⟩)
        have nud : u ≠ d := fun e => by rw [e, upd_same] at hu; cases hu
        refine ⟨by rw [upd_ne nud.symm, upd_same], u, encK (0, 0), rfl, by rw [upd_same]; rfl, by show 1 ≤ sizeLine; decide, fun hl hhl => ⟨by show 1 ≤ sizeLine; decide, fun tl htl => ⟨_, _, _, rfl, ?_⟩⟩⟩
        have npd : p ≠ d := fun e => ht3.ne (by rw [e]; exact hd)
        have s1 : Same H3 (upd (upd H3 d (.dT [])) u (.tup [.int 0, .int 0])) := (same_new hd _).trans (same_new hu _)
        have s2 : Same H3 (upd (upd (upd H3 d (.dT [])) u (.tup [.int 0, .int 0])) d (.dT [(encK (0, 0), .bl true)])) := same_mut s1 hd
        have s3 := s2.trans (same_new hhl (.lst [.int 0]))
        have s4 := s3.trans (same_new htl (.lst [.int 0]))
        have ht4 := ht3.same s4
        have hB4 : BondsAt (upd (upd (upd (upd (upd H3 d (.dT [])) u (.tup [.int 0, .int 0])) d (.dT [(encK (0, 0), .bl true)])) hl (.lst [.int 0])) tl (.lst [.int 0])) d [(0, 0)] := ⟨[(encK (0, 0), .bl true)], ((same_new hhl _).trans (same_new htl _)) _ _ upd_same, rfl⟩
        have hh4 := same_new htl (.lst [.int 0]) _ _ (upd_same (H := upd (upd (upd H3 d (.dT [])) u (.tup [.int 0, .int 0])) d (.dT [(encK (0, 0), .bl true)])) (a := hl) (o := .lst [.int 0]))
        have htt4 : (upd (upd (upd (upd (upd H3 d (.dT [])) u (.tup [.int 0, .int 0])) d (.dT [(encK (0, 0), .bl true)])) hl (.lst [.int 0])) tl (.lst [.int 0])) tl = some (.lst [.int 0]) := upd_same
        have nph : p ≠ hl := fun e => ht3.ne (by rw [e]; exact s2.free hhl)
        have npt : p ≠ tl := fun e => ht3.ne (by rw [e]; exact s3.free htl)
        have nht : hl ≠ tl := fun e => by rw [← e, upd_same] at htl; cases htl
        generalize (upd (upd (upd (upd (upd H3 d (.dT [])) u (.tup [.int 0, .int 0])) d (.dT [(encK (0, 0), .bl true)])) hl (.lst [.int 0])) tl (.lst [.int 0])) = H4 at ht4 hB4 hh4 htt4 ⊢
        show tSeq _ _ _ [some (V.ref p), some (.int 3), some (.int (m : Int)), some (.int (n : Int)), some (.ref d), some (.ref hl), some (.ref tl), none, none, none] H4
        refine ⟨.int (m : Int), rfl, 1, (m : Int), rfl, ⟨by omega, by omega, by omega, by omega⟩, fun D1 hD1 => lc_data (K := K) (G := fun _ => none) walk_range ((List.range (m - 1)).map fun i => encP (0, 1 + i)) ?_ ?_ (fun b o q => nomatch q) hD1 (fun _ _ => trivial) ?_ ?_⟩
        · rw [List.length_map, List.length_range]; omega
        · omega
        · intro i x G1 H5 H5' e hi he hE hD gD hY R hR
          obtain ⟨rfl, rfl⟩ := hY
          have him : i < m - 1 := by omega
          rw [List.getElem?_map, List.getElem?_eq_getElem (by rw [List.length_range]; exact him), List.getElem_range] at he
          have he' : encP (0, 1 + i) = e := Option.some.inj he
          subst he'
          refine ⟨rfl, .int _, rfl, by show 2 ≤ sizeLine; decide, fun u2 hu2 => hR _ _ _ ((Ext.rfl' hE.gh).new hu2) ?_⟩
          have ee : (1 : Int) + (i : Int) = ((1 + i : Nat) : Int) := by omega
          show Dp K (upd G1 u2 (.tup [.int 0, .int (1 + (i : Int))])) _ _
          rw [ee]
          exact dp_pair_mk (t := (0, 1 + i)) st_new
        · intro G1 H5 us1 hE1 gD1 hA1 hus1
          refine ⟨.int (n : Int), rfl, 1, (n : Int), rfl, ⟨by omega, by omega, by omega, by omega⟩, fun D2 hD2 => lc_data (K := K) (G := G1) walk_range ((List.range (n - 1)).map fun i => encP (1, 1 + i)) ?_ ?_ hE1.gh hD2 (fun _ _ => trivial) ?_ ?_⟩
          · rw [List.length_map, List.length_range]; omega
          · omega
          · intro i x G2 H6 H6' e hi he hE hD gD hY R hR
            obtain ⟨rfl, rfl⟩ := hY
            have him : i < n - 1 := by omega
            rw [List.getElem?_map, List.getElem?_eq_getElem (by rw [List.length_range]; exact him), List.getElem_range] at he
            have he' : encP (1, 1 + i) = e := Option.some.inj he
            subst he'
            refine ⟨rfl, .int _, rfl, by show 2 ≤ sizeLine; decide, fun u2 hu2 => hR _ _ _ ((Ext.rfl' hE.gh).new hu2) ?_⟩
            have ee : (1 : Int) + (i : Int) = ((1 + i : Nat) : Int) := by omega
            show Dp K (upd G2 u2 (.tup [.int 1, .int (1 + (i : Int))])) _ _
            rw [ee]
            exact dp_pair_mk (t := (1, 1 + i)) st_new
          · intro G2 H6 us2 hE2 gD2 hA2 hus2
            have hl1 : us1.length = m - 1 := by rw [hA1.len, List.length_map, List.length_range]
            have hl2 : us2.length = n - 1 := by rw [hA2.len, List.length_map, List.length_range]
            refine ⟨D1, D2, us1, us2, rfl, rfl, hE2.hh _ _ hus1, hus2, Nat.le_of_lt (small1000 (by omega)), fun l hl0 => ?_⟩
            have s6 := hE1.hh.trans hE2.hh
            have nn := same_new hl0 (.lst (us1 ++ us2))
            have s7 := s6.trans nn
            have hAll := (hA1.same hE2.gg).app hA2
            have ezs : (List.range (m - 1)).map (fun i => encP (0, 1 + i)) ++ (List.range (n - 1)).map (fun i => encP (1, 1 + i)) = ((List.range (m - 1)).map (fun i => (0, 1 + i)) ++ (List.range (n - 1)).map (fun i => (1, 1 + i))).map encP := by
              rw [List.map_append, List.map_map, List.map_map]
              rfl
            rw [ezs] at hAll
            have hP := dp_paired hAll
            have kG2 : Same G2 (upd H6 l (.lst (us1 ++ us2))) := hE2.gh.trans nn
            have ht7 := ht4.same s7
            have gp : G2 p = none := hE2.none (some_ne (hE1.hh _ _ (ht4.choose_spec.choose_spec.choose_spec.1))) (hE1.none ht4.ne rfl)
            have gd : G2 d = none := hE2.none (some_ne (hE1.hh _ _ hB4.choose_spec.1)) (hE1.none (some_ne hB4.choose_spec.1) rfl)
            have gh : G2 hl = none := hE2.none (some_ne (hE1.hh _ _ hh4)) (hE1.none (some_ne hh4) rfl)
            have gt : G2 tl = none := hE2.none (some_ne (hE1.hh _ _ htt4)) (hE1.none (some_ne htt4) rfl)
            have hB7 := hB4.same s7
            have hh7 := s7 _ _ hh4
            have htt7 := s7 _ _ htt4
            have hl7 : (upd H6 l (.lst (us1 ++ us2))) l = some (.lst (us1 ++ us2)) := upd_same
            have nlp : l ≠ p := fun e => ht4.ne (by rw [← e]; exact s6.free hl0)
            generalize (upd H6 l (.lst (us1 ++ us2))) = H7 at kG2 ht7 hB7 hh7 htt7 hl7 ⊢
            generalize hzs : (List.range (m - 1)).map (fun i => (0, 1 + i)) ++ (List.range (n - 1)).map (fun i => (1, 1 + i)) = zs at hP
            have hul : (us1 ++ us2).length ≤ 4 := by rw [List.length_append]; omega
            generalize us1 ++ us2 = us at hP hl7 hul
            show tSeq _ _ _ [some (V.ref p), some (.int 3), some (.int (m : Int)), some (.int (n : Int)), some (.ref d), some (.ref hl), some (.ref tl), none, some (.ref l), none] H7
            refine ⟨.ref p, rfl, .ref l, rfl, .ref l, rfl, l, us, rfl, .inl (SqL.of hl7), p, l, c + 1 + 1 + 1, us.length, us, rfl, ht7, by omega, hl7, nlp, rfl, by omega, fun q0 ys H8 hq0 hq1 hperm ht8 hG => ?_⟩
            have hHide := hG (hide H7 p) (hide_same H7 p) (hide_none H7 p)
            have kG8 := hG G2 kG2 gp
            have ndp : d ≠ p := npd.symm
            have hB8 : BondsAt H8 d [(0, 0)] := by
              obtain ⟨kvs, b1, b2⟩ := hB7
              exact ⟨kvs, hHide _ _ (by rw [hide_at ndp]; exact b1), b2⟩
            have hh8 := hHide _ _ (by rw [hide_at nph.symm]; exact hh7)
            have htt8 := hHide _ _ (by rw [hide_at npt.symm]; exact htt7)
            obtain ⟨zs', hP', hzp⟩ := paired_perm hperm zs hP
            have hyl : ys.length = us.length := hperm.length_eq
            have gq : G2 q0 = none := kG2.free hq0
            have nqp : q0 ≠ p := fun e => ht7.ne (by rw [← e]; exact hq0)
            have nqh : q0 ≠ hl := fun e => by rw [e, hh7] at hq0; cases hq0
            have nqt : q0 ≠ tl := fun e => by rw [e, htt7] at hq0; cases hq0
            have nqd : q0 ≠ d := fun e => by rw [e, hB7.choose_spec.1] at hq0; cases hq0
            have hzr : ∀ z ∈ zs', (z.1 = 0 ∧ z.2 < m) ∨ (z.1 = 1 ∧ z.2 < n) := by
              intro z hz
              have hz2 := hzp.mem_iff.mp hz
              rw [← hzs] at hz2
              rcases List.mem_append.mp hz2 with h | h
              · obtain ⟨i, hi, rfl⟩ := List.mem_map.mp h
                have := List.mem_range.mp hi
                exact .inl ⟨rfl, by show 1 + i < m; omega⟩
              · obtain ⟨i, hi, rfl⟩ := List.mem_map.mp h
                have := List.mem_range.mp hi
                exact .inr ⟨rfl, by show 1 + i < n; omega⟩
            refine ⟨q0, rfl, ⟨_, SqL.of hq1⟩, for_it (walk_list (xs := ys)) (fun i σ H9 => ∃ y7 ks hs ts, σ = [some (V.ref p), some (.int 3), some (.int (m : Int)), some (.int (n : Int)), some (.ref d), some (.ref hl), some (.ref tl), y7, some (.ref l), none] ∧ Tin H9 p (c + 1 + 1 + 1 + us.length + i) ∧ Same G2 H9 ∧ H9 q0 = some (.lst ys) ∧ BondsAt H9 d ks ∧ H9 hl = some (.lst ((iN hs).map V.int)) ∧ H9 tl = some (.lst ((iN ts).map V.int)) ∧
                ks.Nodup ∧ (∀ k ∈ ks, k.1 < m ∧ k.2 < n) ∧ Sound ks hs ts ∧ 0 ∈ hs ∧ 0 ∈ ts ∧ (∀ a ∈ hs, a < m) ∧ (∀ a ∈ ts, a < n) ∧ (∀ z ∈ zs'.take i, (z.1 = 0 → z.2 ∈ hs) ∧ (z.1 = 1 → z.2 ∈ ts)) ∧ hs.length ≤ 1 + i ∧ ts.length ≤ 1 + i ∧ ks.length ≤ 1 + i)
              ⟨none, [(0, 0)], [0], [0], rfl, ht8, kG8, hq1, hB8, hh8, htt8, by decide, fun k hk => by rw [List.mem_singleton.mp hk]; exact ⟨by omega, by omega⟩, Sound.start, by decide, by decide, fun a ha => by rw [List.mem_singleton.mp ha]; omega, fun a ha => by rw [List.mem_singleton.mp ha]; omega, fun z hz => (by cases hz), by decide, by decide, by decide⟩ (fun i σ H9 _ pp => ?_) (fun i x σ H9 H9' hi pp hY => ?_) (fun σ H9 pp => ?_)⟩
            · obtain ⟨_, _, _, _, _, _, _, h1, _⟩ := pp
              exact SqL.of h1
            · obtain ⟨y7, ks, hs, ts, rfl, ht9, kG, hq9, hB9, hh9, htt9, hnd, hrg, hsound, h0h, h0t, hhm, htn, hpr, hle1, hle2, hle3⟩ := pp
              obtain ⟨rfl, hx⟩ := hY
              obtain ⟨z, hz, hzD⟩ := paired_at hP' hx
              have hzm := List.mem_of_getElem? hz
              have hiu : i < us.length := by omega
              obtain ⟨e, rfl, he⟩ := dp_pair (hzD.same kG)
              have htk : ∀ w ∈ zs'.take (i + 1), w = z ∨ w ∈ zs'.take i := by
                intro w hw
                rw [List.take_add_one, hz] at hw
                rcases List.mem_append.mp hw with h | h
                · exact .inr h
                · exact .inl (by simpa using h)
              refine ⟨.ref e, rfl, e, _, 0, .int (z.1 : Int), rfl, rfl, he, atI_nat (j := 0) rfl, rfl, _, rfl, ite2 (fun z0 => ?_) (fun z0 => ?_)⟩
              · have hz0 : z.1 = 0 := by
                  have := of_decide_eq_true ((decI _ _).symm.trans z0)
                  omega
                have hz2 : z.2 < m := by
                  rcases hzr z hzm with h | h
                  · exact h.2
                  · omega
                refine ⟨.ref d, rfl, .ref e, rfl, e, _, 1, .int (z.2 : Int), rfl, rfl, he, atI_nat (j := 1) rfl, .ref p, rfl, .ref tl, rfl, p, tl, _, _, rfl, ht9, by omega, htt9, npt.symm, ?_, ?_, fun x zz hx ht10 => ?_⟩
                · intro hz
                  have := congrArg List.length hz
                  rw [List.length_map, iN_len] at this
                  have h2 := List.eq_nil_of_length_eq_zero this
                  rw [h2] at h0t
                  cases h0t
                · rw [List.length_map, iN_len]; omega
                · obtain ⟨t', ht', rfl⟩ := List.mem_map.mp hx
                  obtain ⟨t, htm, rfl⟩ := mem_iN.mp ht'
                  refine ⟨by show 2 ≤ sizeLine; decide, fun u2 hu2 => ?_⟩
                  have n10 := same_new hu2 (.tup [.int (z.2 : Int), .int (t : Int)])
                  have kA : Same G2 (upd (upd H9' p zz) u2 (.tup [.int (z.2 : Int), .int (t : Int)])) := (same_mut kG gp).trans n10
                  have hBA : BondsAt (upd (upd H9' p zz) u2 (.tup [.int (z.2 : Int), .int (t : Int)])) d ks := (hB9.off ndp).same n10
                  have hhA := n10 _ _ (show (upd H9' p zz) hl = some (.lst ((iN hs).map V.int)) by rw [upd_ne nph.symm]; exact hh9)
                  have htA := n10 _ _ (show (upd H9' p zz) tl = some (.lst ((iN ts).map V.int)) by rw [upd_ne npt.symm]; exact htt9)
                  have hqA := n10 _ _ (show (upd H9' p zz) q0 = some (.lst ys) by rw [upd_ne nqp]; exact hq9)
                  have htinA := ht10.same n10
                  have huA : (upd (upd H9' p zz) u2 (.tup [.int (z.2 : Int), .int (t : Int)])) u2 = some (.tup [.int (z.2 : Int), .int (t : Int)]) := upd_same
                  generalize (upd (upd H9' p zz) u2 (.tup [.int (z.2 : Int), .int (t : Int)])) = HA at kA hBA hhA htA hqA htinA huA ⊢
                  obtain ⟨kvs', hput, hBB⟩ := hBA.put (z.2, t) (.bl true) huA (by omega)
                  have ndh : d ≠ hl := ne_of hBA.choose_spec.1 hhA (fun z => nomatch z)
                  have ndt : d ≠ tl := ne_of hBA.choose_spec.1 htA (fun z => nomatch z)
                  refine ⟨d, _, rfl, hput, ?_⟩
                  have kB := same_mut (o := .dT kvs') kA gd
                  have hhB : (upd HA d (.dT kvs')) hl = some (.lst ((iN hs).map V.int)) := by rw [upd_ne ndh.symm]; exact hhA
                  refine ⟨.ref hl, rfl, .inl ⟨rfl, _, SqL.of hhB⟩, .ref e, rfl, e, _, 1, .int (z.2 : Int), rfl, rfl, (dp_pair (hzD.same kB)).elim fun e' q' => (by injection q'.1 with q1; rw [q1]; exact q'.2), atI_nat (j := 1) rfl, hl, _, _, rfl, rfl, hhB, by rw [List.length_map, iN_len]; exact small1000 (by omega), ?_⟩
                  refine ⟨some (.ref e), putN ks (z.2, t), hs ++ [z.2], ts, rfl, ((htinA.off npd).off nph).mono (by omega), same_mut kB gh, ?_, hBB.off ndh, ?_, ?_, nodup_putN hnd, ?_, hsound.hand htm, List.mem_append_left _ h0h, h0t, ?_, htn, ?_, ?_, by omega, ?_⟩
                  · rw [upd_ne nqh, upd_ne nqd]; exact hqA
                  · rw [upd_same]
                    unfold iN
                    rw [List.map_append, List.map_append]
                    rfl
                  · rw [upd_ne nht.symm, upd_ne ndt.symm]; exact htA
                  · intro k hk
                    rcases mem_putN.mp hk with h | h
                    · rw [h]; exact ⟨hz2, htn t htm⟩
                    · exact hrg k h
                  · intro a ha
                    rcases List.mem_append.mp ha with h | h
                    · exact hhm a h
                    · rw [List.mem_singleton.mp h]; exact hz2
                  · intro w hw
                    rcases htk w hw with h | h
                    · rw [h]
                      exact ⟨fun _ => List.mem_append_right _ (List.mem_singleton.mpr rfl), fun h1 => by omega⟩
                    · exact ⟨fun h1 => List.mem_append_left _ ((hpr w h).1 h1), (hpr w h).2⟩
                  · rw [List.length_append, List.length_singleton]; omega
                  · have := len_putN ks (z.2, t); omega
              · have hz0 : z.1 = 1 ∧ z.2 < n := by
                  rcases hzr z hzm with h | h
                  · exact absurd ((decI _ _).trans (decide_eq_true (by omega))) z0
                  · exact h
                refine ⟨.ref d, rfl, .ref p, rfl, .ref hl, rfl, p, hl, _, _, rfl, ht9, by omega, hh9, nph.symm, ?_, ?_, fun x zz hx ht10 => ?_⟩
                · intro hz
                  have := congrArg List.length hz
                  rw [List.length_map, iN_len] at this
                  have h2 := List.eq_nil_of_length_eq_zero this
                  rw [h2] at h0h
                  cases h0h
                · rw [List.length_map, iN_len]; omega
                · obtain ⟨t', ht', rfl⟩ := List.mem_map.mp hx
                  obtain ⟨t, htm, rfl⟩ := mem_iN.mp ht'
                  have he10 : SqT K (upd H9' p zz) e [.int (z.1 : Int), .int (z.2 : Int)] := (dp_pair (hzD.same (same_mut (o := zz) kG gp))).elim fun e' q' => (by injection q'.1 with q1; rw [q1]; exact q'.2)
                  refine ⟨.ref e, rfl, e, _, 1, .int (z.2 : Int), rfl, rfl, he10, atI_nat (j := 1) rfl, by show 2 ≤ sizeLine; decide, fun u2 hu2 => ?_⟩
                  have n10 := same_new hu2 (.tup [.int (t : Int), .int (z.2 : Int)])
                  have kA : Same G2 (upd (upd H9' p zz) u2 (.tup [.int (t : Int), .int (z.2 : Int)])) := (same_mut kG gp).trans n10
                  have hBA : BondsAt (upd (upd H9' p zz) u2 (.tup [.int (t : Int), .int (z.2 : Int)])) d ks := (hB9.off ndp).same n10
                  have hhA := n10 _ _ (show (upd H9' p zz) hl = some (.lst ((iN hs).map V.int)) by rw [upd_ne nph.symm]; exact hh9)
                  have htA := n10 _ _ (show (upd H9' p zz) tl = some (.lst ((iN ts).map V.int)) by rw [upd_ne npt.symm]; exact htt9)
                  have hqA := n10 _ _ (show (upd H9' p zz) q0 = some (.lst ys) by rw [upd_ne nqp]; exact hq9)
                  have htinA := ht10.same n10
                  have huA : (upd (upd H9' p zz) u2 (.tup [.int (t : Int), .int (z.2 : Int)])) u2 = some (.tup [.int (t : Int), .int (z.2 : Int)]) := upd_same
                  generalize (upd (upd H9' p zz) u2 (.tup [.int (t : Int), .int (z.2 : Int)])) = HA at kA hBA hhA htA hqA htinA huA ⊢
                  obtain ⟨kvs', hput, hBB⟩ := hBA.put (t, z.2) (.bl true) huA (by omega)
                  have ndh : d ≠ hl := ne_of hBA.choose_spec.1 hhA (fun z => nomatch z)
                  have ndt : d ≠ tl := ne_of hBA.choose_spec.1 htA (fun z => nomatch z)
                  refine ⟨d, _, rfl, hput, ?_⟩
                  have kB := same_mut (o := .dT kvs') kA gd
                  have htB : (upd HA d (.dT kvs')) tl = some (.lst ((iN ts).map V.int)) := by rw [upd_ne ndt.symm]; exact htA
                  refine ⟨.ref tl, rfl, .inl ⟨rfl, _, SqL.of htB⟩, .ref e, rfl, e, _, 1, .int (z.2 : Int), rfl, rfl, (dp_pair (hzD.same kB)).elim fun e' q' => (by injection q'.1 with q1; rw [q1]; exact q'.2), atI_nat (j := 1) rfl, tl, _, _, rfl, rfl, htB, by rw [List.length_map, iN_len]; exact small1000 (by omega), ?_⟩
                  refine ⟨some (.ref e), putN ks (t, z.2), hs, ts ++ [z.2], rfl, ((htinA.off npd).off npt).mono (by omega), same_mut kB gt, ?_, hBB.off ndt, ?_, ?_, nodup_putN hnd, ?_, hsound.task htm, h0h, List.mem_append_left _ h0t, hhm, ?_, ?_, by omega, ?_, ?_⟩
                  · rw [upd_ne nqt, upd_ne nqd]; exact hqA
                  · rw [upd_ne nht, upd_ne ndh.symm]; exact hhA
                  · rw [upd_same]
                    unfold iN
                    rw [List.map_append, List.map_append]
                    rfl
                  · intro k hk
                    rcases mem_putN.mp hk with h | h
                    · rw [h]; exact ⟨hhm t htm, hz0.2⟩
                    · exact hrg k h
                  · intro a ha
                    rcases List.mem_append.mp ha with h | h
                    · exact htn a h
                    · rw [List.mem_singleton.mp h]; exact hz0.2
                  · intro w hw
                    rcases htk w hw with h | h
                    · rw [h]
                      exact ⟨fun h1 => by omega, fun _ => List.mem_append_right _ (List.mem_singleton.mpr rfl)⟩
                    · exact ⟨(hpr w h).1, fun h1 => List.mem_append_left _ ((hpr w h).2 h1)⟩
                  · rw [List.length_append, List.length_singleton]; omega
                  · have := len_putN ks (t, z.2); omega
            · obtain ⟨y7, ks, hs, ts, rfl, ht9, kG, hq9, hB9, hh9, htt9, hnd, hrg, hsound, h0h, h0t, hhm, htn, hpr, hle1, hle2, hle3⟩ := pp
              have hmn9 : m * n ≤ 9 := Nat.le_trans (Nat.mul_le_mul hm.2 hn.2) (by decide)
              have emn : (m : Int) * (n : Int) = ((m * n : Nat) : Int) := (Int.natCast_mul m n).symm
              have hyz : ys.length = zs'.length := Paired.length hP'
              rw [hyz, List.take_length] at hpr
              have hall : (∀ h, h < m → h ∈ hs) ∧ ∀ t, t < n → t ∈ ts := by
                refine ⟨fun h hh => ?_, fun t ht => ?_⟩
                · by_cases e : h = 0
                  · rw [e]; exact h0h
                  · refine (hpr (0, h) (hzp.mem_iff.mpr ?_)).1 rfl
                    rw [← hzs]
                    exact List.mem_append_left _ (List.mem_map.mpr ⟨h - 1, List.mem_range.mpr (by omega), by rw [show 1 + (h - 1) = h by omega]⟩)
                · by_cases e : t = 0
                  · rw [e]; exact h0t
                  · refine (hpr (1, t) (hzp.mem_iff.mpr ?_)).2 rfl
                    rw [← hzs]
                    exact List.mem_append_right _ (List.mem_map.mpr ⟨t - 1, List.mem_range.mpr (by omega), by rw [show 1 + (t - 1) = t by omega]⟩)
              refine ⟨.ref p, rfl, .int (m : Int), rfl, .int (n : Int), rfl, _, _, rfl, rfl, .inl ⟨by omega, by omega⟩, _, _, rfl, rfl, p, _, _, rfl, ht9, ?_, ?_, by omega, fun r zz hr5 ht10 => ?_⟩
              · rw [emn]; omega
              · rw [emn]; omega
              · have hr9 : r ≤ 9 := by rw [emn] at hr5; omega
                refine ⟨_, rfl, by omega, by omega, for_it walk_range (fun i σ H10 => ∃ y9 ks', σ = [some (V.ref p), some (.int 3), some (.int (m : Int)), some (.int (n : Int)), some (.ref d), some (.ref hl), some (.ref tl), y7, some (.ref l), y9] ∧ Tin H10 p (c + 3 + us.length + ys.length + 1 + 2 * i) ∧ BondsAt H10 d ks' ∧ ks'.Nodup ∧ (∀ k ∈ ks', k.1 < m ∧ k.2 < n) ∧ Sound ks' hs ts ∧ ks'.length ≤ 1 + ys.length + i)
                  ⟨none, ks, rfl, ht10.mono (by omega), hB9.off ndp, hnd, hrg, hsound, by omega⟩ (fun _ _ _ _ _ => trivial) (fun i x σ H10 H10' hi pp hY => ?_) (fun σ H10 pp => ?_)⟩
                · rw [Int.toNat_natCast] at hi
                  obtain ⟨y9, ks', rfl, ht11, hB10, hnd', hrg', hs', hle'⟩ := pp
                  obtain ⟨rfl, rfl⟩ := hY
                  refine ⟨.ref d, rfl, .ref p, rfl, .int (m : Int), rfl, p, _, _, rfl, ht11, by omega, by omega, by omega, fun r1 z1 hr1' ht12 => ?_⟩
                  refine ⟨.ref p, rfl, .int (n : Int), rfl, p, _, _, rfl, ht12, by omega, by omega, by omega, fun r2 z2 hr2' ht13 => ?_⟩
                  refine ⟨by show 2 ≤ sizeLine; decide, fun u2 hu2 => ?_⟩
                  have n10 := same_new hu2 (.tup [.int (r1 : Int), .int (r2 : Int)])
                  have hBA : BondsAt _ d ks' := ((hB10.off (o := z1) ndp).off (o := z2) ndp).same n10
                  obtain ⟨kvs', hput, hBB⟩ := hBA.put (r1, r2) (.bl true) upd_same (by omega)
                  refine ⟨d, _, rfl, hput, some (.int _), putN ks' (r1, r2), rfl, ((ht13.same n10).off npd).mono (by omega), hBB, nodup_putN hnd', ?_, hs'.more _, ?_⟩
                  · intro k hk
                    rcases mem_putN.mp hk with h | h
                    · rw [h]; exact ⟨by show r1 < m; omega, by show r2 < n; omega⟩
                    · exact hrg' k h
                  · have := len_putN ks' (r1, r2); omega
                · rw [Int.toNat_natCast] at pp
                  obtain ⟨y9, ks', rfl, ht11, ⟨kvs, hd10, hkv⟩, hnd', hrg', hs', hle'⟩ := pp
                  have ekI : kvs.map (·.1) = (ks'.map fun t => [(t.1 : Int), (t.2 : Int)]).map keyI := by rw [hkv, List.map_map]; rfl
                  refine ⟨.int (m : Int), rfl, .int (n : Int), rfl, .ref d, rfl, d, kvs, _, rfl, hd10, ekI, ?_, fun bs p2 hperm2 hform hpw hp2 => ?_⟩
                  · intro k hk
                    obtain ⟨t, _, rfl⟩ := List.mem_map.mp hk
                    exact fun z => nomatch z
                  · refine ⟨p2, _, rfl, .inl ⟨sq_new, fun u2 hu2 => ⟨by show 3 ≤ sizeLine; decide, fun r3 hr3 => ?_⟩⟩⟩
                    have epk : (ks'.map fun t => [(t.1 : Int), (t.2 : Int)]).map tupD = ks'.map encP := by rw [List.map_map]; rfl
                    rw [epk] at hperm2
                    obtain ⟨tt, e1, e2⟩ := perm_map_lift encP hperm2 ks' rfl
                    have sF := (same_new hp2 (.lst (bs.map Prod.fst))).trans ((same_new hu2 (.tup (bs.map Prod.fst))).trans (same_new hr3 (.tup [.int (m : Int), .int (n : Int), .ref u2])))
                    have htF := ht11.same sF
                    have hu3 := (same_new hr3 (.tup [V.int (m : Int), .int (n : Int), .ref u2])) _ _ (upd_same (H := upd H10 p2 (.lst (bs.map Prod.fst))) (a := u2) (o := .tup (bs.map Prod.fst)))
                    have hr4 : (upd (upd (upd H10 p2 (.lst (bs.map Prod.fst))) u2 (.tup (bs.map Prod.fst))) r3 (.tup [.int (m : Int), .int (n : Int), .ref u2])) r3 = some (.tup [.int (m : Int), .int (n : Int), .ref u2]) := upd_same
                    generalize (upd (upd (upd H10 p2 (.lst (bs.map Prod.fst))) u2 (.tup (bs.map Prod.fst))) r3 (.tup [.int (m : Int), .int (n : Int), .ref u2])) = HF at sF htF hu3 hr4 ⊢
                    have hDb : ∀ b ∈ bs, Dp K (hide HF p) b.1 b.2 := by
                      intro b hb
                      obtain ⟨t, k, rfl, hk⟩ := hform b hb
                      have h1 := sF _ _ hk
                      exact Dp.tup (SqT.of (by rw [hide_at (htF.tup_ne h1)]; exact h1)) (DpAll.ints k)
                    have hDD := DpAll.of_zip hDb
                    rw [e1] at hDD
                    have hTs : Dp K (hide HF p) (.ref u2) (encTs tt) := Dp.tup (SqT.of (by rw [hide_at (htF.tup_ne hu3)]; exact hu3)) hDD
                    have hW : Dp K (hide HF p) (.ref r3) (encW ⟨m, n, tt⟩) := Dp.tup (SqT.of (by rw [hide_at (htF.tup_ne hr4)]; exact hr4)) (.cons (.int _) (.cons (.int _) (.cons hTs .nil)))
                    refine q r3 HF (hide HF p) ⟨m, n, tt⟩ (hide_same HF p) (hide_none HF p) hW ⟨hm.1, hm.2, hn.1, hn.2, fun t ht => hrg' t (e2.mem_iff.mp ht), ?_, ?_⟩ (htF.mono (by omega))
                    · have h1 : (bs.map Prod.snd).Pairwise (fun a b => dataLe false id a b = true) := List.pairwise_map.mpr hpw
                      rw [e1, List.pairwise_map] at h1
                      have h2 : tt.Nodup := e2.nodup_iff.mpr hnd'
                      have h3 : tt.Pairwise (fun a b => dataLe false id (encP a) (encP b) = true ∧ a ≠ b) := h1.and h2
                      refine h3.imp fun {a b} h => ?_
                      have h4 := congrFun (congrFun (dataLe_ii (fun t : Nat × Nat => (t.1 : Int)) (fun t : Nat × Nat => (t.2 : Int))) a) b
                      have h5 : decide ((a.1 : Int) < (b.1 : Int) ∨ ((a.1 : Int) = (b.1 : Int) ∧ (a.2 : Int) ≤ (b.2 : Int))) = true := h4.symm.trans h.1
                      have h6 := of_decide_eq_true h5
                      have h7 : a.1 ≠ b.1 ∨ a.2 ≠ b.2 := by
                        by_cases e : a.1 = b.1
                        · exact .inr fun e' => h.2 (Prod.ext e e')
                        · exact .inl e
                      unfold pairLt
                      by_cases e : a.1 < b.1
                      · simp [e]
                      · have e3 : a.1 = b.1 := by omega
                        have e4 : a.2 < b.2 := by omega
                        simp [e3, e4]
                    · intro f hf
                      obtain ⟨c1, c2⟩ := (hs'.perm e2) f hf
                      exact ⟨fun h hh => c1 h (hall.1 h hh), fun t ht => c2 t (hall.2 t ht)⟩
end
end Hk

set_option Elab.async false
set_option linter.all false
set_option maxRecDepth 100000
set_option maxHeartbeats 4000000
namespace Hk
open PySem PySem.Spec PySem.W PyProof.Rows L2 Hm
/-! ### data that does not stand on a dict -/
section
variable {K : Frag} {H H' : Hp}
mutual
theorem dp_imp (eL : ∀ a xs, SqL K H a xs → SqL K H' a xs) (eT : ∀ a xs, SqT K H a xs → SqT K H' a xs) : ∀ (d : PyData) (v : V), Dp K H v d → Dp K H' v d
  | .none, _, h => by cases h; exact .non
  | .bool _, _, h => by cases h; exact .bl _
  | .int _, _, h => by cases h; exact .int _
  | .str _, _, h => by cases h; exact .str _
  | .list ds, _, h => by
    cases h with
    | lst h1 h2 => exact .lst (eL _ _ h1) (dpAll_imp eL eT ds _ h2)
  | .tuple ds, _, h => by
    cases h with
    | tup h1 h2 => exact .tup (eT _ _ h1) (dpAll_imp eL eT ds _ h2)
  | .dict _, _, h => by cases h
theorem dpAll_imp (eL : ∀ a xs, SqL K H a xs → SqL K H' a xs) (eT : ∀ a xs, SqT K H a xs → SqT K H' a xs) : ∀ (ds : List PyData) (vs : List V), DpAll K H vs ds → DpAll K H' vs ds
  | [], _, h => by cases h; exact .nil
  | d :: ds, _, h => by
    cases h with
    | cons h1 h2 => exact .cons (dp_imp eL eT d _ h1) (dpAll_imp eL eT ds _ h2)
end
theorem sqL_hide {p : Addr} {kvs : List (List Key × V)} (hp : H p = some (.dT kvs)) : ∀ a xs, SqL K H a xs → SqL K (hide H p) a xs := fun a xs h => by
  rcases h with (h | ⟨o, h⟩) | h
  · exact .inl (.inl (by rw [hide_at (fun e => by rw [e, hp] at h; cases h)]; exact h))
  · exact .inl (.inr ⟨o, by rw [hide_at (fun e => by rw [e, hp] at h; cases h)]; exact h⟩)
  · exact .inr h
theorem sqT_hide {p : Addr} {kvs : List (List Key × V)} (hp : H p = some (.dT kvs)) : ∀ a xs, SqT K H a xs → SqT K (hide H p) a xs := fun a xs h => by
  rcases h with (h | ⟨o, h⟩) | h
  · exact .inl (.inl (by rw [hide_at (fun e => by rw [e, hp] at h; cases h)]; exact h))
  · exact .inl (.inr ⟨o, by rw [hide_at (fun e => by rw [e, hp] at h; cases h)]; exact h⟩)
  · exact .inr h
theorem dp_hide {p : Addr} {kvs : List (List Key × V)} (hp : H p = some (.dT kvs)) {v : V} {d : PyData} (h : Dp K H v d) : Dp K (hide H p) v d := dp_imp (sqL_hide hp) (sqT_hide hp) d v h
theorem dpAll_hide {p : Addr} {kvs : List (List Key × V)} (hp : H p = some (.dT kvs)) {vs : List V} {ds : List PyData} (h : DpAll K H vs ds) : DpAll K (hide H p) vs ds := dpAll_imp (sqL_hide hp) (sqT_hide hp) ds vs h
end
/-! ### a dict of rows -/
theorem keyI_inj {s t : List Int} (h : keyI s = keyI t) : s = t := by
  have h1 := congrArg (fun l => l.map kV) h
  simp only [kV_keyI] at h1
  have h2 := congrArg (fun l => l.map fun v : V => match v with | .int i => i | _ => 0) h1
  simp only [List.map_map] at h2
  have e : ((fun v : V => match v with | .int i => i | _ => 0) ∘ V.int) = id := rfl
  rw [e, List.map_id, List.map_id] at h2
  exact h2
def putL (ks : List (List Int)) (k : List Int) : List (List Int) := if k ∈ ks then ks else ks ++ [k]
theorem mem_putL {ks : List (List Int)} {k j : List Int} : j ∈ putL ks k ↔ j = k ∨ j ∈ ks := by
  unfold putL
  by_cases h : k ∈ ks
  · rw [if_pos h]
    exact ⟨.inr, fun e => e.elim (fun e => e ▸ h) id⟩
  · rw [if_neg h, List.mem_append, List.mem_singleton]
    exact ⟨fun e => e.symm, fun e => e.symm⟩
theorem nodup_putL {ks : List (List Int)} {k : List Int} (h : ks.Nodup) : (putL ks k).Nodup := by
  unfold putL
  by_cases c : k ∈ ks
  · rw [if_pos c]; exact h
  · rw [if_neg c, List.nodup_append]
    exact ⟨h, by simp, fun a ha b hb => by rw [List.mem_singleton] at hb; subst hb; exact fun e => c (e ▸ ha)⟩
theorem len_putL (ks : List (List Int)) (k : List Int) : (putL ks k).length ≤ ks.length + 1 := by
  unfold putL
  split
  · omega
  · rw [List.length_append, List.length_singleton]; omega
def RowsAt (H : Hp) (d : Addr) (ks : List (List Int)) : Prop := ∃ kvs : List (List Key × V), H d = some (.dT kvs) ∧ kvs.map (·.1) = ks.map keyI
theorem keys_putTL (kvs : List (List Key × V)) (ks : List (List Int)) (h : kvs.map (·.1) = ks.map keyI) (k : List Int) (v : V) : (putK kvs (keyI k) v).map (·.1) = (putL ks k).map keyI := by
  have hm : (kvs.any fun kv => decide (kv.1 = keyI k)) = true ↔ k ∈ ks := by
    rw [List.any_eq_true]
    constructor
    · rintro ⟨kv, h1, h2⟩
      have h3 : kv.1 ∈ kvs.map (·.1) := List.mem_map.mpr ⟨kv, h1, rfl⟩
      rw [h] at h3
      obtain ⟨j, hj, e⟩ := List.mem_map.mp h3
      rw [of_decide_eq_true h2] at e
      exact keyI_inj e ▸ hj
    · intro hk
      have h3 : keyI k ∈ kvs.map (·.1) := by rw [h]; exact List.mem_map.mpr ⟨k, hk, rfl⟩
      obtain ⟨kv, h1, h2⟩ := List.mem_map.mp h3
      exact ⟨kv, h1, decide_eq_true h2⟩
  unfold putK putL
  by_cases c : k ∈ ks
  · rw [if_pos c, if_pos (hm.mpr c), List.map_map, ← h]
    apply List.map_congr_left
    intro kv _
    show (if kv.1 = keyI k then (kv.1, v) else kv).1 = kv.1
    split <;> rfl
  · rw [if_neg c, if_neg (fun z => c (hm.mp z)), List.map_append, List.map_append, h]
    rfl
theorem RowsAt.put {H : Hp} {d b : Addr} {ks : List (List Int)} (h : RowsAt H d ks) (k : List Int) (v : V) (hb : H b = some (.tup (k.map V.int))) (hl : ks.length ≤ 1000) :
    ∃ kvs', DPut H d (.ref b) v (upd H d (.dT kvs')) ∧ RowsAt (upd H d (.dT kvs')) d (putL ks k) := by
  obtain ⟨kvs, h1, h2⟩ := h
  refine ⟨putK kvs (keyI k) v, DPut.t h1 ?_ ?_, putK kvs (keyI k) v, upd_same, keys_putTL kvs ks h2 k v⟩
  · rw [hb, kV_keyI]
  · have := congrArg List.length h2
    rw [List.length_map, List.length_map] at this
    exact small1000 (by omega)
theorem RowsAt.off {H : Hp} {d c : Addr} {ks : List (List Int)} {o : HO} (h : RowsAt H d ks) (n : d ≠ c) : RowsAt (upd H c o) d ks := by
  obtain ⟨kvs, h1, h2⟩ := h
  exact ⟨kvs, by rw [upd_ne n]; exact h1, h2⟩
theorem RowsAt.same {H H' : Hp} {d : Addr} {ks : List (List Int)} (h : RowsAt H d ks) (s : Same H H') : RowsAt H' d ks := by
  obtain ⟨kvs, h1, h2⟩ := h
  exact ⟨kvs, s _ _ h1, h2⟩
/-- the lines, ascending, one of each -/
def LinesOk (wb : Web) (half : Nat) (ls : List (List Int)) : Prop := (∀ l, l ∈ ls ↔ l ∈ lines wb half) ∧ ls.Pairwise (fun a b => a ≤ b ∧ a ≠ b)
def RowsIn (H : Hp) (us : List V) (ls : List (List Int)) : Prop := Paired (fun v l => ∃ t, v = V.ref t ∧ H t = some (.tup (l.map V.int))) us ls
theorem RowsIn.same {H H' : Hp} {us : List V} {ls : List (List Int)} (h : RowsIn H us ls) (s : Same H H') : RowsIn H' us ls := paired_imp (fun _ _ ⟨t, h1, h2⟩ => ⟨t, h1, s _ _ h2⟩) h
theorem rows_sorted {H : Hp} : ∀ {bs : List (V × PyData)} {tt : List (List Int)}, (∀ b ∈ bs, ∃ t k, b = (V.ref t, tupD k) ∧ H t = some (.tup (k.map V.int))) → bs.map Prod.snd = tt.map tupD → RowsIn H (bs.map Prod.fst) tt
  | [], [], _, _ => .nil
  | [], _ :: _, _, h => by cases h
  | _ :: _, [], _, h => by cases h
  | b :: bs, l :: tt, hf, h => by
    rw [List.map_cons, List.map_cons] at h
    injection h with h1 h2
    obtain ⟨t, k, rfl, hk⟩ := hf b List.mem_cons_self
    have hkl : k = l := by
      have h3 : PyData.tuple (k.map PyData.int) = PyData.tuple (l.map PyData.int) := h1
      injection h3 with h4
      have h5 := congrArg (fun l => l.map fun v : PyData => match v with | .int i => i | _ => 0) h4
      simp only [List.map_map] at h5
      have e : ((fun v : PyData => match v with | .int i => i | _ => 0) ∘ PyData.int) = id := rfl
      rw [e, List.map_id, List.map_id] at h5
      exact h5
    exact .cons ⟨t, rfl, by rw [← hkl]; exact hk⟩ (rows_sorted (fun c hc => hf c (List.mem_cons_of_mem _ hc)) h2)
theorem le_rows (a b : List Int) (h : dataLe false id (tupD a) (tupD b) = true) : a ≤ b := by
  have h1 := congrFun (congrFun (dataLe_rows (fun x : List Int => x)) a) b
  have h2 : dataLe false (fun b : List Int => PyData.list (b.map PyData.int)) a b = true := by
    have e : ∀ x : List Int, keyToks (PyData.list (x.map PyData.int)) = keyToks (tupD x) := fun x => by
      show keyToks (PyData.list (x.map PyData.int)) = keyToks (PyData.tuple (x.map PyData.int))
      rw [keyToks, keyToks]
    have h3 : (!(listOrd itemOrd).blt (keyToks (tupD b)) (keyToks (tupD a))) = true := h
    show (!(listOrd itemOrd).blt (keyToks (PyData.list (b.map PyData.int))) (keyToks (PyData.list (a.map PyData.int)))) = true
    rw [e, e]
    exact h3
  rw [h1] at h2
  exact of_decide_eq_true h2
section
variable {P : Program} {w : World} {K : PySem.W.Frag} {mg : Str → Option Value} {base : Heap}
/-! ### _law_both_lines -/
abbrev st_both : Stmt := topS 45
abbrev N_both : List Str := ["_law_net_here", "_law_hands_so", "_law_tasks_so", "_law_boughs"]
theorem sc_both : FnScope N_both ["_law_net_here"] (defScope st_both) := ⟨rfl, rfl, rfl, by decide +kernel, rfl, by decide +kernel, by decide +kernel⟩
def sp_both (K : PySem.W.Frag) : Sp := fun vs H Q _ => ∃ (v : V) (wb : Web), vs = [v] ∧ Dp K H v (encW wb) ∧ Small wb ∧ 1 ≤ wb.m ∧ 1 ≤ wb.n ∧ (∀ t ∈ wb.ties, t.1 < wb.m ∧ t.2 < wb.n) ∧
  ∀ (r a b : Addr) (us0 us1 : List V) (ls0 ls1 : List (List Int)) (H' : Hp), Same H H' → H' r = some (.tup [.ref a, .ref b]) → H a = none → H b = none → H' a = some (.lst us0) → H' b = some (.lst us1) → RowsIn H' us0 ls0 → RowsIn H' us1 ls1 → LinesOk wb 0 ls0 → LinesOk wb 1 ls1 → Q (.ref r) H'
theorem ok_both (S : Src K mg "_law_both_lines" st_both ["_law_net_here"]) (B : Blt mg) (C1 : Cal P w K mg base 1 "_law_all_trees" ["_law_net_here"] (sp_trees K)) (C2 : Cal P w K mg base 1 "_law_line" ["_law_net_here", "_law_boughs", "_law_half"] (sp_line K)) : Cal P w K mg base 2 "_law_both_lines" ["_law_net_here"] (sp_both K) := by
  refine S.cal sc_both (fun vs H Q E h => ?_) (fun f cdv A outer s H vs Q E hr h => ?_)
  · obtain ⟨v, wb, rfl, _⟩ := h
    rfl
  · obtain ⟨v, wb, rfl, hd, hsm, hm1, hn1, hbd, q⟩ := h
    refine ⟨_, pss_cons (ps_par (i := 1) (j := 2) rfl sc_both.nd rfl rfl (by decide) rfl rfl (pa_cons pe_dnewT (pa_cons pe_dnewT pa_nil)) (by rfl))
      (pss_cons (ps_for PassesOwn.never rfl (pi_list (pe_cal C1 hr (by rfl) (pa_cons (pv 0) pa_nil))) (pg_name (i := 3) sc_both.nd rfl (.inl rfl))
        (pss_cons (ps_asg pe_bl (pg_sub (pv 1) (pe_cal C2 hr (by rfl) (pa_cons (pv 0) (pa_cons (pv 3) (pa_cons pe_int pa_nil)))) (L2.set_dict (hu_of hr))))
        (pss_one (ps_asg pe_bl (pg_sub (pv 2) (pe_cal C2 hr (by rfl) (pa_cons (pv 0) (pa_cons (pv 3) (pa_cons pe_int pa_nil)))) (L2.set_dict (hu_of hr)))))))
      (pss_one (ps_ret (pe_tup (pa_cons (pe_callB (cr_sortedDT rfl hr.units) (by rfl) B.sorted PyProof.Rows.boot_sorted (pa_cons (pv 1) pa_nil)) (pa_cons (pe_callB (cr_sortedDT rfl hr.units) (by rfl) B.sorted PyProof.Rows.boot_sorted (pa_cons (pv 2) pa_nil)) pa_nil)))))), ?_⟩
    refine (fun d0 hd0 d1 hd1 => ?_)
    refine ⟨_, _, rfl, ?_⟩
    have sA : Same H (upd (upd H d0 (.dT [])) d1 (.dT [])) := (same_new hd0 _).trans (same_new hd1 _)
    have h1H : H d1 = none := (same_new hd0 (.dT [])).free hd1
    have ndd : d0 ≠ d1 := fun e => by rw [← e, upd_same] at hd1; cases hd1
    have hR0 : RowsAt (upd (upd H d0 (.dT [])) d1 (.dT [])) d0 [] := ⟨[], by rw [upd_ne ndd, upd_same], rfl⟩
    have hR1 : RowsAt (upd (upd H d0 (.dT [])) d1 (.dT [])) d1 [] := ⟨[], upd_same, rfl⟩
    generalize (upd (upd H d0 (.dT [])) d1 (.dT [])) = HA at sA hR0 hR1 ⊢
    refine ⟨v, rfl, v, wb, rfl, hd.same sA, hsm, hm1, hn1, hbd, fun p us es H1 s1 hp hus hpm => ?_⟩
    have hR0' := hR0.same s1
    have hR1' := hR1.same s1
    obtain ⟨kv0, k0, _⟩ := hR0'
    obtain ⟨kv1, k1, _⟩ := hR1'
    have k1' : (hide H1 d0) d1 = some (.dT kv1) := by rw [hide_at ndd.symm]; exact k1
    have hGus : DpAll K (hide (hide H1 d0) d1) us (es.map encTs) := dpAll_hide k1' (dpAll_hide k0 hus)
    have hGw : Dp K (hide (hide H1 d0) d1) v (encW wb) := dp_hide k1' (dp_hide k0 ((hd.same sA).same s1))
    have gS : Same (hide (hide H1 d0) d1) H1 := (hide_same _ _).trans (hide_same _ _)
    have gd1 : (hide (hide H1 d0) d1) d1 = none := hide_none _ _
    have gd0 : (hide (hide H1 d0) d1) d0 = none := by rw [hide_at ndd]; exact hide_none _ _
    have npd0 : p ≠ d0 := fun e => by rw [e, k0] at hp; cases hp
    have npd1 : p ≠ d1 := fun e => by rw [e, k1] at hp; cases hp
    have gp : (hide (hide H1 d0) d1) p = some (.lst us) := by rw [hide_at npd1, hide_at npd0]; exact hp
    have sA1 := sA.trans s1
    have hHG : ∀ b o, H b = some o → (hide (hide H1 d0) d1) b = some o := fun b o e => by
      rw [hide_at (fun z => by rw [z, h1H] at e; cases e), hide_at (fun z => by rw [z, hd0] at e; cases e)]
      exact sA1 _ _ e
    generalize hide (hide H1 d0) d1 = G at hGus hGw gS gd1 gd0 gp hHG
    have hul : us.length = es.length := by rw [hus.len, List.length_map]
    have hel : es.length ≤ 512 := by
      rw [hpm.length_eq, trees_fs, List.length_map]
      refine Nat.le_trans (List.length_filter_le _ _) (Nat.le_trans (fs_len wb _) (pow9 hsm.2.2))
    have hesb : ∀ t ∈ es, ∀ x ∈ t, x.1 < wb.m ∧ x.2 < wb.n := by
      intro t ht x hx
      have h1 := hpm.mem_iff.mp ht
      rw [trees_fs] at h1
      obtain ⟨g, hg, rfl⟩ := List.mem_map.mp h1
      exact hbd x ((fs_ok wb _ (Nat.le_refl _) g (List.mem_filter.mp hg).1).2.2 x hx)
    refine ⟨p, rfl, ⟨_, SqL.of hp⟩, for_it (walk_list (xs := us)) (fun i σ H2 => ∃ y ks0 ks1, σ = [some v, some (.ref d0), some (.ref d1), y] ∧ Same G H2 ∧ RowsAt H2 d0 ks0 ∧ RowsAt H2 d1 ks1 ∧ ks0.Nodup ∧ ks1.Nodup ∧ (∀ l, l ∈ ks0 ↔ ∃ t ∈ es.take i, l = line wb 0 t) ∧ (∀ l, l ∈ ks1 ↔ ∃ t ∈ es.take i, l = line wb 1 t) ∧ ks0.length ≤ i ∧ ks1.length ≤ i)
      ⟨none, [], [], rfl, gS, hR0.same s1, hR1.same s1, List.nodup_nil, List.nodup_nil, fun l => by simp, fun l => by simp, Nat.le_refl _, Nat.le_refl _⟩ (fun i σ H2 _ pp => ?_) (fun i x σ H2 H2' hi pp hY => ?_) (fun σ H2 pp => ?_)⟩
    · obtain ⟨_, _, _, _, s2, _⟩ := pp
      exact SqL.of (s2 _ _ gp)
    · obtain ⟨y, ks0, ks1, rfl, s2, r0, r1, n0, n1, m0, m1, l0, l1⟩ := pp
      obtain ⟨rfl, hx⟩ := hY
      obtain ⟨e, he1, he2⟩ := hGus.back hx
      have hie : i < es.length := by omega
      rw [List.getElem?_map, List.getElem?_eq_getElem hie] at he1
      have he3 := Option.some.inj he1
      subst he3
      have hbt := hesb _ (List.getElem_mem hie)
      have htake : ∀ (f : List (Nat × Nat) → List Int) (l : List Int), (l = f es[i] ∨ ∃ t ∈ es.take i, l = f t) ↔ ∃ t ∈ es.take (i + 1), l = f t := by
        intro f l
        rw [List.take_add_one, List.getElem?_eq_getElem hie]
        constructor
        · rintro (h | ⟨t, h1, h2⟩)
          · exact ⟨_, List.mem_append_right _ (by simp), h⟩
          · exact ⟨t, List.mem_append_left _ h1, h2⟩
        · rintro ⟨t, h1, h2⟩
          rcases List.mem_append.mp h1 with h | h
          · exact .inr ⟨t, h, h2⟩
          · have : t = es[i] := by simpa using h
            exact .inl (this ▸ h2)
      refine ⟨.ref d0, rfl, v, rfl, x, rfl, v, x, wb, es[i], 0, rfl, hGw.same s2, he2.same s2, by decide, hsm, hbt, fun q1 H3 s3 hq1 hq2 => ?_⟩
      obtain ⟨kvs', hput, hRR⟩ := (r0.same s3).put (line wb 0 es[i]) (.bl true) hq2 (by omega)
      refine ⟨d0, _, rfl, hput, ?_⟩
      have s4 : Same G (upd H3 d0 (.dT kvs')) := same_mut (s2.trans s3) gd0
      have r1' : RowsAt (upd H3 d0 (.dT kvs')) d1 ks1 := (r1.same s3).off ndd.symm
      refine ⟨.ref d1, rfl, v, rfl, x, rfl, v, x, wb, es[i], 1, rfl, hGw.same s4, he2.same s4, by decide, hsm, hbt, fun q3 H4 s5 hq3 hq4 => ?_⟩
      obtain ⟨kvs2, hput2, hRR2⟩ := (r1'.same s5).put (line wb 1 es[i]) (.bl true) hq4 (by omega)
      refine ⟨d1, _, rfl, hput2, some x, _, _, rfl, same_mut (s4.trans s5) gd1, (hRR.same s5).off ndd, hRR2, nodup_putL n0, nodup_putL n1, fun l => ?_, fun l => ?_, ?_, ?_⟩
      · rw [mem_putL, m0 l]
        exact htake (line wb 0) l
      · rw [mem_putL, m1 l]
        exact htake (line wb 1) l
      · have := len_putL ks0 (line wb 0 es[i]); omega
      · have := len_putL ks1 (line wb 1 es[i]); omega
    · obtain ⟨y, ks0, ks1, rfl, s2, ⟨kvs0, e0, f0⟩, r1, n0, n1, m0, m1, l0, l1⟩ := pp
      rw [hul, List.take_length] at m0 m1
      have hne : ∀ half, half ≤ 1 → ∀ (ks : List (List Int)), (∀ l, l ∈ ks ↔ ∃ t ∈ es, l = line wb half t) → ∀ k ∈ ks, k ≠ [] := by
        intro half hh ks hm k hk z
        obtain ⟨t, _, e⟩ := (hm k).mp hk
        have h1 := congrArg List.length e
        rw [line_len, z] at h1
        unfold Web.size at h1
        split at h1
        · simp at h1; omega
        · simp at h1; omega
      have fin : ∀ half (ks : List (List Int)) (bs : List (V × PyData)), ks.Nodup → (∀ l, l ∈ ks ↔ ∃ t ∈ es, l = line wb half t) → (bs.map Prod.snd).Perm (ks.map tupD) → bs.Pairwise (fun a b => dataLe false Prod.snd a b = true) → ∃ tt, bs.map Prod.snd = tt.map tupD ∧ LinesOk wb half tt := by
        intro half ks bs hn hm hp2 hw
        obtain ⟨tt, q1, q2⟩ := perm_map_lift tupD hp2 ks rfl
        refine ⟨tt, q1, fun l => ?_, ?_⟩
        · rw [q2.mem_iff, hm l]
          unfold lines
          rw [List.mem_map]
          exact ⟨fun ⟨t, h1, h2⟩ => ⟨t, hpm.mem_iff.mp h1, h2.symm⟩, fun ⟨t, h1, h2⟩ => ⟨t, hpm.mem_iff.mpr h1, h2.symm⟩⟩
        · have h1 : (bs.map Prod.snd).Pairwise (fun a b => dataLe false id a b = true) := List.pairwise_map.mpr hw
          rw [q1, List.pairwise_map] at h1
          have h2 : tt.Nodup := q2.nodup_iff.mpr hn
          have h3 : tt.Pairwise (fun a b => dataLe false id (tupD a) (tupD b) = true ∧ a ≠ b) := h1.and h2
          exact h3.imp fun {a b} h => ⟨le_rows a b h.1, h.2⟩
      refine ⟨.ref d0, rfl, d0, kvs0, ks0, rfl, e0, f0, hne 0 (by decide) ks0 m0, fun bs p2 hb1 hb2 hb3 hp2 => ?_⟩
      have nn2 := same_new hp2 (.lst (bs.map Prod.fst))
      obtain ⟨kvs1, e1, f1⟩ := r1.same nn2
      refine ⟨.ref d1, rfl, d1, kvs1, ks1, rfl, e1, f1, hne 1 (by decide) ks1 m1, fun cs p3 hc1 hc2 hc3 hp3 => ?_⟩
      have nn3 := same_new hp3 (.lst (cs.map Prod.fst))
      refine ⟨by show 2 ≤ sizeLine; decide, fun r hr4 => ?_⟩
      have nn4 := same_new hr4 (.tup [V.ref p2, V.ref p3])
      obtain ⟨tt0, t01, t02⟩ := fin 0 ks0 bs n0 m0 hb1 hb3
      obtain ⟨tt1, t11, t12⟩ := fin 1 ks1 cs n1 m1 hc1 hc3
      have hSH : Same H H2 := fun b o e => s2 _ _ (hHG b o e)
      refine q r p2 p3 (bs.map Prod.fst) (cs.map Prod.fst) tt0 tt1 _ (hSH.trans (nn2.trans (nn3.trans nn4))) upd_same (hSH.free hp2) ((hSH.trans nn2).free hp3) (nn4 _ _ (nn3 _ _ upd_same)) (nn4 _ _ upd_same) ?_ ?_ t02 t12
      · exact (rows_sorted hb2 t01).same (nn2.trans (nn3.trans nn4))
      · exact (rows_sorted hc2 t11).same (nn3.trans nn4)
end
end Hk


set_option Elab.async false
set_option linter.all false
set_option maxRecDepth 100000
set_option maxHeartbeats 4000000
namespace Hk
open PySem PySem.Spec PySem.W PyProof.Rows L2 Hm
/-! ### written data -/
def tDat (K : Frag) (d : PyData) : TE := fun σ H Q => ∃ G, Same G H ∧ ∀ v G' H', Ext G H G' H' → Dp K G' v d → Q v H'
def tDatA (K : Frag) (ds : List PyData) : TA := fun σ H Q => ∃ G, Same G H ∧ ∀ vs G' H', Ext G H G' H' → DpAll K G' vs ds → Q vs H'
section
variable {X : Cx} {K : Frag}
theorem pe_imp {e : Expr} {t t' : TE} (h : PE X e t) (i : ∀ σ H Q, t' σ H Q → t σ H Q) : PE X e t' := ⟨fun pins s σ H Q I q => h.run pins s σ H Q I (i σ H Q q)⟩
theorem pa_imp {e : List Expr} {t t' : TA} (h : PA X e t) (i : ∀ σ H Q, t' σ H Q → t σ H Q) : PA X e t' := ⟨fun pos pins s σ H Q I q => h.run pos pins s σ H Q I (i σ H Q q)⟩
theorem pdat_int {i : Int} {j pos} : PE X (.Constant (.int i) j pos) (tDat K (.int i)) := pe_imp pe_int fun σ H Q ⟨G, hG, q⟩ => q _ G H (Ext.rfl' hG) (.int i)
theorem pda_nil : PA X [] (tDatA K []) := pa_imp pa_nil fun σ H Q ⟨G, hG, q⟩ => q _ G H (Ext.rfl' hG) .nil
theorem pda_cons {e : Expr} {es : List Expr} {d : PyData} {ds : List PyData} (h1 : PE X e (tDat K d)) (h2 : PA X es (tDatA K ds)) (hs : starEach (e :: es) X.env = (false, eval e X.env) :: starEach es X.env := by rfl) : PA X (e :: es) (tDatA K (d :: ds)) :=
  pa_imp (pa_cons h1 h2 hs) fun σ H Q ⟨G, hG, q⟩ => ⟨G, hG, fun v G1 H1 E1 d1 => ⟨G1, E1.gh, fun vs G2 H2 E2 d2 => q _ G2 H2 (E1.trans E2) (.cons (d1.same E2.gg) d2)⟩⟩
theorem pdat_tup {es : List Expr} {ds : List PyData} {k pos} (hl : ds.length ≤ 1000) (h : PA X es (tDatA K ds)) : PE X (.Tuple es k pos) (tDat K (.tuple ds)) :=
  pe_imp (pe_tup h) fun σ H Q ⟨G, hG, q⟩ => ⟨G, hG, fun vs G1 H1 E1 dA => ⟨by rw [dA.len]; exact Nat.le_of_lt (small1000 hl), fun p hp => q _ _ _ (E1.new hp) (.tup st_new (dA.same (same_new (E1.gh.free hp) _)))⟩⟩
theorem pdat_lst {es : List Expr} {ds : List PyData} {pos} (hl : ds.length ≤ 1000) (h : PA X es (tDatA K ds)) : PE X (.List es pos) (tDat K (.list ds)) :=
  pe_imp (pe_lst h) fun σ H Q ⟨G, hG, q⟩ => ⟨G, hG, fun vs G1 H1 E1 dA => ⟨by rw [dA.len]; exact Nat.le_of_lt (small1000 hl), fun p hp => q _ _ _ (E1.new hp) (.lst (SqL.of upd_same) (dA.same (same_new (E1.gh.free hp) _)))⟩⟩
end
theorem tupX_W (w : Web) : tupX 4 (encW w) = encW w := by
  have h : (w.ties.map encP).map (tupX 2) = w.ties.map encP := by
    rw [List.map_map]
    rfl
  show PyData.tuple [.int w.m, .int w.n, .tuple ((w.ties.map encP).map (tupX 2))] = _
  rw [h]
  rfl
theorem tupX_lstW (w : Web) : tupX 4 (lstX 4 (encW w)) = encW w := by
  have h : ((w.ties.map encP).map (lstX 2)).map (tupX 2) = w.ties.map encP := by
    rw [List.map_map, List.map_map]
    rfl
  show PyData.tuple [.int w.m, .int w.n, .tuple (((w.ties.map encP).map (lstX 2)).map (tupX 2))] = _
  rw [h]
  rfl
theorem fit_P (t : Nat × Nat) : fit 2 (encP t) = true := rfl
theorem fit_lP (t : Nat × Nat) : fit 2 (lstX 2 (encP t)) = true := rfl
theorem fit_W {w : Web} (h : w.ties.length ≤ 1000) : fit 4 (encW w) = true := by
  have h2 : fit 3 (encTs w.ties) = true := by
    show (decide ((w.ties.map encP).length ≤ 1000) && (w.ties.map encP).all (fit 2)) = true
    rw [List.length_map, decide_eq_true h, Bool.true_and, List.all_map]
    exact List.all_eq_true.mpr fun t _ => fit_P t
  show (decide (3 ≤ 1000) && (true && (true && (fit 3 (encTs w.ties) && true)))) = true
  rw [h2]
  rfl
theorem fit_lW {w : Web} (h : w.ties.length ≤ 1000) : fit 4 (lstX 4 (encW w)) = true := by
  have h2 : fit 3 (lstX 3 (encTs w.ties)) = true := by
    show (decide (((w.ties.map encP).map (lstX 2)).length ≤ 1000) && ((w.ties.map encP).map (lstX 2)).all (fit 2)) = true
    rw [List.length_map, List.length_map, decide_eq_true h, Bool.true_and, List.map_map, List.all_map]
    exact List.all_eq_true.mpr fun t _ => fit_lP t
  show (decide (3 ≤ 1000) && (true && (true && (fit 3 (lstX 3 (encTs w.ties)) && true)))) = true
  rw [h2]
  rfl
theorem tupX_I (ls : List Int) : tupX 4 (tupD ls) = tupD ls := by
  show PyData.tuple ((ls.map PyData.int).map (tupX 3)) = PyData.tuple (ls.map PyData.int)
  rw [List.map_map]
  rfl
theorem tupX_L (ls : List Int) : tupX 4 (lstI ls) = tupD ls := by
  show PyData.tuple ((ls.map PyData.int).map (tupX 3)) = PyData.tuple (ls.map PyData.int)
  rw [List.map_map]
  rfl
theorem fit_I {ls : List Int} (h : ls.length ≤ 1000) : fit 4 (tupD ls) = true := by
  show (decide ((ls.map PyData.int).length ≤ 1000) && (ls.map PyData.int).all (fit 3)) = true
  rw [List.length_map, decide_eq_true h, Bool.true_and, List.all_map]
  exact List.all_eq_true.mpr fun t _ => rfl
theorem fit_L {ls : List Int} (h : ls.length ≤ 1000) : fit 4 (lstI ls) = true := fit_I h
def gridW : Web := ⟨3, 3, [(0, 0), (0, 1), (0, 2), (1, 1), (1, 2), (2, 0), (2, 2)]⟩
def pathW : Web := ⟨2, 3, [(0, 0), (0, 1), (1, 1), (1, 2)]⟩
theorem grid_ok : okWeb gridW = true := by decide +kernel
theorem path_ok : okWeb pathW = true := by decide +kernel
theorem grid_rows0 : okRows gridW 0 = true := by decide +kernel
theorem grid_rows1 : okRows gridW 1 = true := by decide +kernel
theorem path_rows1 : okRows pathW 1 = true := by decide +kernel
theorem grid_small : Small gridW := ⟨by decide, by decide, by decide⟩
theorem path_small : Small pathW := ⟨by decide, by decide, by decide⟩
theorem hand_eq : [((manyC leB gridW 0 [1, 1, 2] : Nat) : Int), (manyC geB gridW 0 [1, 0, 0] : Nat), (manyC leB gridW 0 [0, 0, 0] : Nat), (manyC geB pathW 1 [0, 1, 0] : Nat), (manyC geB pathW 1 [1, 0, 0] : Nat), (manyC leB gridW 1 [9, 9, 9] : Nat), (manyC geB gridW 1 [0, 0, 0] : Nat), (manyC leB gridW 1 [0, 1, 2] : Nat)] = [3, 3, 0, 1, 0, 4, 4, 2] := by decide +kernel
section
variable {P : Program} {w : World} {K : PySem.W.Frag} {mg : Str → Option Value} {base : Heap}
/-! ### _law_by_hand_right -/
abbrev st_hand : Stmt := topS 46
abbrev N_hand : List Str := ["_law_grid", "_law_path", "_law_got", "_law_due"]
theorem sc_hand : FnScope N_hand [] (defScope st_hand) := ⟨rfl, rfl, rfl, by decide +kernel, rfl, by decide +kernel, by decide +kernel⟩
def sp_hand : Sp := fun vs H Q _ => vs = [] ∧ ∀ H', Same H H' → Q (.bl true) H'
/-- one call of many_below, many_above -/
theorem many_go {c : Int → Int → Bool} {H : Hp} {Q : VK} {v lv : V} {d dl : PyData} {wb : Web} {side : Nat} {ls : List Int} (hd : Dp K H v d) (hf : fit 4 d = true) (hx : tupX 4 d = encW wb) (hok : okWeb wb = true) (hsm : Small wb) (hs : side ≤ 1) (hro : okRows wb side = true)
    (hdl : Dp K H lv dl) (hfl : fit 4 dl = true) (hxl : tupX 4 dl = tupD ls) (hll : ls.length = wb.size side) (h0 : ∀ x ∈ ls, 0 ≤ x) (q : ∀ H', Same H H' → Q (.int (manyC c wb side ls : Nat)) H') : sp_many K c [v, .int side, lv] H Q E0 :=
  ⟨v, lv, d, dl, wb, side, ls, rfl, hd, hf, hx, hok, hsm, hs, hro, hdl, hfl, hxl, hll, h0, q⟩
theorem ok_hand (S : Src K mg "_law_by_hand_right" st_hand []) (C1 : KCal P w K mg base 7 "many_below" (sp_many K leB)) (C2 : KCal P w K mg base 7 "many_above" (sp_many K geB)) (C3 : Cal P w K mg base 4 "_law_lists" ["_law_matter"] (sp_lists K 4)) (C4 : Cal P w K mg base 2 "_law_same" ["_law_got", "_law_due"] (sp_sameL K)) : Cal P w K mg base 8 "_law_by_hand_right" [] sp_hand := by
  refine S.cal sc_hand (fun vs H Q E h => ?_) (fun f cdv A outer s H vs Q E hr h => ?_)
  · obtain ⟨rfl, _⟩ := h
    rfl
  · obtain ⟨rfl, q⟩ := h
    refine ⟨_, pss_cons (ps_asg (te := tDat K (.tuple [encW gridW, encW pathW])) (by repeat (first | exact pdat_int | exact pda_nil | refine pdat_tup (by decide) ?_ | refine pda_cons ?_ ?_))
          (pgT K rfl (pgs_cons (pg_name (i := 0) sc_hand.nd rfl (Or.inl rfl)) (pgs_cons (pg_name (i := 1) sc_hand.nd rfl (Or.inl rfl)) pgs_nil))))
      (pss_cons (ps_set (i := 2) sc_hand.nd rfl (.inl rfl) (pe_lst
        (pa_cons (pe_cal C1.cal hr (by rfl) (pa_cons (pv 0) (pa_cons pe_int (pa_cons (te := tDat K (tupD [1, 1, 2])) (by repeat (first | exact pdat_int | exact pda_nil | refine pdat_tup (by decide) ?_ | refine pda_cons ?_ ?_)) pa_nil))))
        (pa_cons (pe_cal C2.cal hr (by rfl) (pa_cons (pv 0) (pa_cons pe_int (pa_cons (te := tDat K (lstI [1, 0, 0])) (by repeat (first | exact pdat_int | exact pda_nil | refine pdat_lst (by decide) ?_ | refine pda_cons ?_ ?_)) pa_nil))))
        (pa_cons (pe_cal C1.cal hr (by rfl) (pa_cons (pv 0) (pa_cons pe_int (pa_cons (te := tDat K (tupD [0, 0, 0])) (by repeat (first | exact pdat_int | exact pda_nil | refine pdat_tup (by decide) ?_ | refine pda_cons ?_ ?_)) pa_nil))))
        (pa_cons (pe_cal C2.cal hr (by rfl) (pa_cons (pv 1) (pa_cons pe_int (pa_cons (te := tDat K (tupD [0, 1, 0])) (by repeat (first | exact pdat_int | exact pda_nil | refine pdat_tup (by decide) ?_ | refine pda_cons ?_ ?_)) pa_nil))))
        (pa_cons (pe_cal C2.cal hr (by rfl) (pa_cons (pv 1) (pa_cons pe_int (pa_cons (te := tDat K (tupD [1, 0, 0])) (by repeat (first | exact pdat_int | exact pda_nil | refine pdat_tup (by decide) ?_ | refine pda_cons ?_ ?_)) pa_nil)))) pa_nil)))))))
      (pss_cons (ps_set (i := 3) sc_hand.nd rfl (.inl rfl) (pe_lst (pa_cons pe_int (pa_cons pe_int (pa_cons pe_int (pa_cons pe_int (pa_cons pe_int pa_nil)))))))
      (pss_cons (ps_set (i := 2) sc_hand.nd rfl (.inl rfl) (pe_op op_cat (pv 2) (pe_lst
        (pa_cons (pe_calK C1 hr (by rfl) (pk_cons (te := tDat K (lstI [9, 9, 9])) (by repeat (first | exact pdat_int | exact pda_nil | refine pdat_lst (by decide) ?_ | refine pda_cons ?_ ?_)) (pk_cons pe_int (pk_cons (pe_cal C3 (hr.mono (by decide)) (by rfl) (pa_cons (pv 0) pa_nil)) pk_nil))))
        (pa_cons (pe_calK C2 hr (by rfl) (pk_cons (te := tDat K (lstI [0, 0, 0])) (by repeat (first | exact pdat_int | exact pda_nil | refine pdat_lst (by decide) ?_ | refine pda_cons ?_ ?_)) (pk_cons pe_int (pk_cons (pe_cal C3 (hr.mono (by decide)) (by rfl) (pa_cons (pv 0) pa_nil)) pk_nil))))
        (pa_cons (pe_cal C1.cal hr (by rfl) (pa_cons (pv 0) (pa_cons pe_int (pa_cons (te := tDat K (tupD [0, 1, 2])) (by repeat (first | exact pdat_int | exact pda_nil | refine pdat_tup (by decide) ?_ | refine pda_cons ?_ ?_)) pa_nil)))) pa_nil))))))
      (pss_one (ps_ret (pe_cal C4 (hr.mono (by decide)) (by rfl) (pa_cons (pv 2) (pa_cons (pe_op op_cat (pv 3) (pe_lst (pa_cons pe_int (pa_cons pe_int (pa_cons pe_int pa_nil))))) pa_nil)))))))), ?_⟩
    refine ⟨H, Same.refl _, fun v0 G0 H0 ex0 dd0 => ?_⟩
    obtain ⟨a, xs, rfl, hT, hA⟩ := dd0.tup_inv
    cases hA with
    | cons q1 hA =>
    cases hA with
    | cons q2 hA =>
    cases hA
    rename_i vg vp
    refine ⟨a, [vg, vp], rfl, same_seqT ex0.gh hT, rfl, _, _, rfl, _, _, rfl, rfl, ?_⟩
    have dg0 := q1.same ex0.gh
    have dp0 := q2.same ex0.gh
    have t0 := ex0.hh
    refine ⟨vg, rfl, _, Same.refl _, fun lv1 G1 H1 e1 d1 => ⟨vg, lv1, encW gridW, _, gridW, 0, [1, 1, 2], rfl, (dg0.same e1.hh), (fit_W (by decide)), (tupX_W _), grid_ok, grid_small, (by decide), grid_rows0, (d1.same e1.gh), (fit_I (by decide)), (tupX_I _), rfl, (by decide), fun K1 s1 => ?_⟩⟩
    have dg1 := dg0.same (e1.hh.trans s1)
    have dp1 := dp0.same (e1.hh.trans s1)
    have t1 := t0.trans (e1.hh.trans s1)
    refine ⟨vg, rfl, _, Same.refl _, fun lv2 G2 H2 e2 d2 => ⟨vg, lv2, encW gridW, _, gridW, 0, [1, 0, 0], rfl, (dg1.same e2.hh), (fit_W (by decide)), (tupX_W _), grid_ok, grid_small, (by decide), grid_rows0, (d2.same e2.gh), (fit_L (by decide)), (tupX_L _), rfl, (by decide), fun K2 s2 => ?_⟩⟩
    have dg2 := dg1.same (e2.hh.trans s2)
    have dp2 := dp1.same (e2.hh.trans s2)
    have t2 := t1.trans (e2.hh.trans s2)
    refine ⟨vg, rfl, _, Same.refl _, fun lv3 G3 H3 e3 d3 => ⟨vg, lv3, encW gridW, _, gridW, 0, [0, 0, 0], rfl, (dg2.same e3.hh), (fit_W (by decide)), (tupX_W _), grid_ok, grid_small, (by decide), grid_rows0, (d3.same e3.gh), (fit_I (by decide)), (tupX_I _), rfl, (by decide), fun K3 s3 => ?_⟩⟩
    have dg3 := dg2.same (e3.hh.trans s3)
    have dp3 := dp2.same (e3.hh.trans s3)
    have t3 := t2.trans (e3.hh.trans s3)
    refine ⟨vp, rfl, _, Same.refl _, fun lv4 G4 H4 e4 d4 => ⟨vp, lv4, encW pathW, _, pathW, 1, [0, 1, 0], rfl, (dp3.same e4.hh), (fit_W (by decide)), (tupX_W _), path_ok, path_small, (by decide), path_rows1, (d4.same e4.gh), (fit_I (by decide)), (tupX_I _), rfl, (by decide), fun K4 s4 => ?_⟩⟩
    have dg4 := dg3.same (e4.hh.trans s4)
    have dp4 := dp3.same (e4.hh.trans s4)
    have t4 := t3.trans (e4.hh.trans s4)
    refine ⟨vp, rfl, _, Same.refl _, fun lv5 G5 H5 e5 d5 => ⟨vp, lv5, encW pathW, _, pathW, 1, [1, 0, 0], rfl, (dp4.same e5.hh), (fit_W (by decide)), (tupX_W _), path_ok, path_small, (by decide), path_rows1, (d5.same e5.gh), (fit_I (by decide)), (tupX_I _), rfl, (by decide), fun K5 s5 => ?_⟩⟩
    have dg5 := dg4.same (e5.hh.trans s5)
    have dp5 := dp4.same (e5.hh.trans s5)
    have t5 := t4.trans (e5.hh.trans s5)
    refine ⟨by show 5 ≤ sizeLine; decide, fun g hg => ⟨by show 5 ≤ sizeLine; decide, fun du hdu => ?_⟩⟩
    have n1 := same_new hg (.lst [V.int ((manyC leB gridW 0 [1, 1, 2] : Nat) : Int), .int ((manyC geB gridW 0 [1, 0, 0] : Nat) : Int), .int ((manyC leB gridW 0 [0, 0, 0] : Nat) : Int), .int ((manyC geB pathW 1 [0, 1, 0] : Nat) : Int), .int ((manyC geB pathW 1 [1, 0, 0] : Nat) : Int)])
    have n2 := same_new hdu (.lst [V.int 3, .int 3, .int 0, .int 1, .int 0])
    have hgv := n2 _ _ (upd_same (H := K5) (a := g) (o := .lst [V.int ((manyC leB gridW 0 [1, 1, 2] : Nat) : Int), .int ((manyC geB gridW 0 [1, 0, 0] : Nat) : Int), .int ((manyC leB gridW 0 [0, 0, 0] : Nat) : Int), .int ((manyC geB pathW 1 [0, 1, 0] : Nat) : Int), .int ((manyC geB pathW 1 [1, 0, 0] : Nat) : Int)]))
    have hdv : (upd (upd K5 g (.lst [V.int ((manyC leB gridW 0 [1, 1, 2] : Nat) : Int), .int ((manyC geB gridW 0 [1, 0, 0] : Nat) : Int), .int ((manyC leB gridW 0 [0, 0, 0] : Nat) : Int), .int ((manyC geB pathW 1 [0, 1, 0] : Nat) : Int), .int ((manyC geB pathW 1 [1, 0, 0] : Nat) : Int)])) du (.lst [V.int 3, .int 3, .int 0, .int 1, .int 0])) du = some (.lst [V.int 3, .int 3, .int 0, .int 1, .int 0]) := upd_same
    have n12 := n1.trans n2
    generalize (upd (upd K5 g (.lst [V.int ((manyC leB gridW 0 [1, 1, 2] : Nat) : Int), .int ((manyC geB gridW 0 [1, 0, 0] : Nat) : Int), .int ((manyC leB gridW 0 [0, 0, 0] : Nat) : Int), .int ((manyC geB pathW 1 [0, 1, 0] : Nat) : Int), .int ((manyC geB pathW 1 [1, 0, 0] : Nat) : Int)])) du (.lst [V.int 3, .int 3, .int 0, .int 1, .int 0])) = HX at hgv hdv n12 ⊢
    have dg5' := dg5.same n12
    refine ⟨.ref g, rfl, _, Same.refl _, fun lv6 G6 H6 e6 d6 => ⟨vg, rfl, vg, encW gridW, H6, rfl, Same.refl _, dg5'.same e6.hh, fit_W (by decide), fun v6 G6' H6' e6' d6' => ⟨v6, lv6, lstX 4 (encW gridW), _, gridW, 1, [9, 9, 9], rfl, (d6'.same e6'.gh), (fit_lW (by decide)), (tupX_lstW _), grid_ok, grid_small, (by decide), grid_rows1, (d6.same (e6.gh.trans e6'.hh)), (fit_L (by decide)), (tupX_L _), rfl, (by decide), fun K6 s6 => ?_⟩⟩⟩
    have x6 := (e6.hh.trans e6'.hh).trans s6
    refine ⟨_, Same.refl _, fun lv7 G7 H7 e7 d7 => ⟨vg, rfl, vg, encW gridW, H7, rfl, Same.refl _, (dg5'.same x6).same e7.hh, fit_W (by decide), fun v7 G7' H7' e7' d7' => ⟨v7, lv7, lstX 4 (encW gridW), _, gridW, 1, [0, 0, 0], rfl, (d7'.same e7'.gh), (fit_lW (by decide)), (tupX_lstW _), grid_ok, grid_small, (by decide), grid_rows1, (d7.same (e7.gh.trans e7'.hh)), (fit_L (by decide)), (tupX_L _), rfl, (by decide), fun K7 s7 => ?_⟩⟩⟩
    have x7 := x6.trans ((e7.hh.trans e7'.hh).trans s7)
    refine ⟨vg, rfl, _, Same.refl _, fun lv8 G8 H8 e8 d8 => ⟨vg, lv8, encW gridW, _, gridW, 1, [0, 1, 2], rfl, ((dg5'.same x7).same e8.hh), (fit_W (by decide)), (tupX_W _), grid_ok, grid_small, (by decide), grid_rows1, (d8.same e8.gh), (fit_I (by decide)), (tupX_I _), rfl, (by decide), fun K8 s8 => ?_⟩⟩
    have x8 := x7.trans (e8.hh.trans s8)
    refine ⟨by show 3 ≤ sizeLine; decide, fun l2 hl2 => ?_⟩
    have n3 := same_new hl2 (.lst [V.int ((manyC leB gridW 1 [9, 9, 9] : Nat) : Int), .int ((manyC geB gridW 1 [0, 0, 0] : Nat) : Int), .int ((manyC leB gridW 1 [0, 1, 2] : Nat) : Int)])
    refine ⟨g, l2, _, _, rfl, rfl, n3 _ _ (x8 _ _ hgv), upd_same, by show 5 + 3 ≤ sizeLine; decide, fun p hp => ?_⟩
    have n4 := same_new hp (.lst ([V.int ((manyC leB gridW 0 [1, 1, 2] : Nat) : Int), .int ((manyC geB gridW 0 [1, 0, 0] : Nat) : Int), .int ((manyC leB gridW 0 [0, 0, 0] : Nat) : Int), .int ((manyC geB pathW 1 [0, 1, 0] : Nat) : Int), .int ((manyC geB pathW 1 [1, 0, 0] : Nat) : Int)] ++ [V.int ((manyC leB gridW 1 [9, 9, 9] : Nat) : Int), .int ((manyC geB gridW 1 [0, 0, 0] : Nat) : Int), .int ((manyC leB gridW 1 [0, 1, 2] : Nat) : Int)]))
    refine ⟨.ref p, rfl, .ref du, rfl, by show 3 ≤ sizeLine; decide, fun l3 hl3 => ?_⟩
    have n5 := same_new hl3 (.lst [V.int 4, .int 4, .int 2])
    refine ⟨du, l3, _, _, rfl, rfl, n5 _ _ (n4 _ _ (n3 _ _ (x8 _ _ hdv))), upd_same, by show 5 + 3 ≤ sizeLine; decide, fun p2 hp2 => ?_⟩
    have n6 := same_new hp2 (.lst ([V.int 3, .int 3, .int 0, .int 1, .int 0] ++ [V.int 4, .int 4, .int 2]))
    refine ⟨p, p2, _, [3, 3, 0, 1, 0, 4, 4, 2], rfl, SqL.of (n6 _ _ (n5 _ _ upd_same)), SqL.of upd_same, hand_eq, by decide, fun H' s' => ?_⟩
    exact q H' (((t5.trans n12).trans x8).trans (n3.trans (n4.trans (n5.trans (n6.trans s')))))
end
end Hk

set_option linter.all false
namespace Hm
theorem mem_subs {α : Type} : ∀ {l L : List α}, l.Sublist L → l ∈ subs L := by
  intro l L h
  induction h with
  | slnil => exact List.mem_singleton.mpr rfl
  | cons a h ih => exact List.mem_append_left _ ih
  | cons_cons a h ih => exact List.mem_append_right _ (List.mem_map.mpr ⟨_, ih, rfl⟩)
theorem sub_of {α : Type} (R : α → α → Prop) (as : ∀ a b, R a b → R b a → False) : ∀ {L l : List α}, L.Pairwise R → l.Pairwise R → (∀ x ∈ l, x ∈ L) → l.Sublist L
  | [], l, _, _, h => by
    cases l with
    | nil => exact .slnil
    | cons x r => exact absurd (h x List.mem_cons_self) (by simp)
  | y :: L, l, hL, hl, h => by
    obtain ⟨h1, h2⟩ := List.pairwise_cons.mp hL
    cases l with
    | nil => exact List.nil_sublist _
    | cons x r =>
      obtain ⟨h3, h4⟩ := List.pairwise_cons.mp hl
      rcases List.mem_cons.mp (h x List.mem_cons_self) with e | hx
      · subst e
        refine .cons_cons _ (sub_of R as h2 h4 fun z hz => ?_)
        rcases List.mem_cons.mp (h z (List.mem_cons_of_mem _ hz)) with e | h5
        · exact (as x x (e ▸ h3 z hz) (e ▸ h3 z hz)).elim
        · exact h5
      · refine .cons _ (sub_of R as h2 hl fun z hz => ?_)
        rcases List.mem_cons.mp (h z hz) with e | h5
        · exfalso
          subst e
          rcases List.mem_cons.mp hz with e | hz
          · exact as z z (h1 z (e ▸ hx)) (h1 z (e ▸ hx))
          · exact as x z (h3 z hz) (h1 x hx)
        · exact h5
theorem uniq_of {α : Type} (R : α → α → Prop) (as : ∀ a b, R a b → R b a → False) : ∀ {l1 l2 : List α}, l1.Pairwise R → l2.Pairwise R → (∀ x, x ∈ l1 ↔ x ∈ l2) → l1 = l2
  | [], l2, _, _, h => by
    cases l2 with
    | nil => rfl
    | cons x r => exact absurd ((h x).mpr List.mem_cons_self) (by simp)
  | a :: r1, l2, p1, p2, h => by
    cases l2 with
    | nil => exact absurd ((h a).mp List.mem_cons_self) (by simp)
    | cons b r2 =>
      obtain ⟨h1, h2⟩ := List.pairwise_cons.mp p1
      obtain ⟨h3, h4⟩ := List.pairwise_cons.mp p2
      have e : a = b := by
        rcases List.mem_cons.mp ((h a).mp List.mem_cons_self) with e | ha
        · exact e
        · rcases List.mem_cons.mp ((h b).mpr List.mem_cons_self) with e | hb
          · exact e.symm
          · exact (as a b (h1 b hb) (h3 a ha)).elim
      subst e
      rw [uniq_of R as h2 h4 fun x => ?_]
      constructor
      · intro hx
        rcases List.mem_cons.mp ((h x).mp (List.mem_cons_of_mem _ hx)) with e | h5
        · exact (as a a (e ▸ h1 x hx) (e ▸ h1 x hx)).elim
        · exact h5
      · intro hx
        rcases List.mem_cons.mp ((h x).mpr (List.mem_cons_of_mem _ hx)) with e | h5
        · exact (as a a (e ▸ h3 x hx) (e ▸ h3 x hx)).elim
        · exact h5
theorem pairLt_as (a b : Nat × Nat) : pairLt a b = true → pairLt b a = true → False := by
  unfold pairLt
  intro h1 h2
  simp at h1 h2
  omega
theorem pairs_asc : ∀ m < 4, ∀ n < 4, (pairs m n).Pairwise (fun a b => pairLt a b = true) := by decide +kernel
theorem mem_pairs {m n : Nat} {t : Nat × Nat} (h : t.1 < m ∧ t.2 < n) : t ∈ pairs m n :=
  List.mem_flatMap.mpr ⟨t.1, List.mem_range.mpr h.1, List.mem_map.mpr ⟨t.2, List.mem_range.mpr h.2, rfl⟩⟩
theorem ties_subs {m n : Nat} (hm : m ≤ 3) (hn : n ≤ 3) {ts : List (Nat × Nat)} (h1 : ts.Pairwise fun a b => pairLt a b = true) (h2 : ∀ t ∈ ts, t.1 < m ∧ t.2 < n) : ts.Sublist (pairs m n) :=
  sub_of _ pairLt_as (pairs_asc m (by omega) n (by omega)) h1 fun x hx => mem_pairs (h2 x hx)
theorem pairs_len : ∀ m < 4, ∀ n < 4, (pairs m n).length ≤ 9 := by decide +kernel
theorem lexLt_lt : ∀ a b : List Int, lexLt a b = true → a < b
  | [], [], h => by cases h
  | [], _ :: _, _ => List.nil_lt_cons ..
  | _ :: _, [], h => by cases h
  | x :: xs, y :: ys, h => by
    have h' : (if x = y then lexLt xs ys else decide (x < y)) = true := h
    rw [List.cons_lt_cons_iff]
    by_cases e : x = y
    · rw [if_pos e] at h'
      exact .inr ⟨e, lexLt_lt xs ys h'⟩
    · rw [if_neg e] at h'
      exact .inl (of_decide_eq_true h')
theorem asc_pair : ∀ l : List (List Int), ascL l = true → l.Pairwise (fun a b => a < b)
  | [], _ => .nil
  | [_], _ => List.pairwise_singleton _ _
  | a :: b :: r, h => by
    have h' : (lexLt a b && ascL (b :: r)) = true := h
    rw [Bool.and_eq_true] at h'
    have ih := asc_pair (b :: r) h'.2
    have hab := lexLt_lt a b h'.1
    refine List.pairwise_cons.mpr ⟨fun x hx => ?_, ih⟩
    rcases List.mem_cons.mp hx with e | hx
    · rw [e]; exact hab
    · exact List.lt_trans hab ((List.pairwise_cons.mp ih).1 x hx)
theorem same_eq {w : Web} {half : Nat} (h : sameRows w half = true) {ls : List (List Int)} (h1 : ∀ l, l ∈ ls ↔ l ∈ lines w half) (h2 : ls.Pairwise (fun a b => a ≤ b ∧ a ≠ b)) : ls = rows w half := by
  unfold sameRows at h
  rw [Bool.and_eq_true, Bool.and_eq_true] at h
  obtain ⟨⟨ha, hb⟩, hc⟩ := h
  refine uniq_of (fun a b : List Int => a ≤ b ∧ a ≠ b) (fun a b p q => p.2 (List.le_antisymm p.1 q.1)) h2 ((asc_pair _ ha).imp fun {a b} h => ⟨List.le_of_lt h, fun e => List.lt_irrefl b (e ▸ h)⟩) fun x => ?_
  rw [h1 x]
  constructor
  · intro hx
    exact of_decide_eq_true (List.all_eq_true.mp hc x hx)
  · intro hx
    exact of_decide_eq_true (List.all_eq_true.mp hb x hx)
theorem not_apart {w : Web} (h : ∀ f : Nat → Nat → Bool, (∀ k ∈ w.ties, f 0 k.1 = f 1 k.2) → (∀ h, h < w.m → f 0 h = f 0 0) ∧ (∀ t, t < w.n → f 1 t = f 0 0)) (hm : 1 ≤ w.m) : apart w = false := by
  cases e : apart w with
  | false => rfl
  | true =>
    exfalso
    unfold apart at e
    rw [Bool.and_eq_true] at e
    obtain ⟨e1, e2⟩ := e
    have h1 := h (fun s x => if s = 0 then colour w x else colour w (w.m + x)) fun k hk => by
      have := List.all_eq_true.mp e1 k hk
      show colour w k.1 = colour w (w.m + k.2)
      simpa using this
    have c0 : colour w 0 = true := by
      unfold colour
      exact beq_self_eq_true _
    obtain ⟨x, hx, hc⟩ := List.any_eq_true.mp e2
    have hx' := List.mem_range.mp hx
    have hcx : colour w x = true := by
      by_cases z : x < w.m
      · have h3 : colour w x = colour w 0 := h1.1 x z
        rw [h3, c0]
      · have h3 : colour w (w.m + (x - w.m)) = colour w 0 := h1.2 (x - w.m) (by omega)
        rw [show w.m + (x - w.m) = x by omega, c0] at h3
        exact h3
    rw [hcx] at hc
    cases hc
theorem chunk_all {α : Type} (p : α → Bool) (l : List α) (c : Nat) : ∀ k, (∀ i, i < k → ((l.drop (c * i)).take c).all p = true) → (l.take (c * k)).all p = true
  | 0, _ => by rw [Nat.mul_zero, List.take_zero]; rfl
  | k + 1, h => by
    have ih := chunk_all p l c k fun i hi => h i (by omega)
    rw [Nat.mul_succ, List.take_add, List.all_append, ih, h k (by omega)]
    rfl
def nonneg (w : Web) (half : Nat) : Bool := (rows w half).all fun r => r.all fun x => decide (0 ≤ x)
def good2 (w : Web) : Bool := apart w || (okWeb w && okRows w 0 && okRows w 1 && sameRows w 0 && sameRows w 1 && nonneg w 0 && nonneg w 1)
structure Fine (w : Web) : Prop where
  web : okWeb w = true
  rows : ∀ s, s ≤ 1 → okRows w s = true
  same : ∀ s, s ≤ 1 → sameRows w s = true
  nn : ∀ s, s ≤ 1 → nonneg w s = true
theorem good_of {w : Web} (h : good2 w = true) (ha : apart w = false) : Fine w := by
  unfold good2 at h
  rw [ha, Bool.false_or] at h
  simp only [Bool.and_eq_true] at h
  refine ⟨h.1.1.1.1.1.1, fun s hs => ?_, fun s hs => ?_, fun s hs => ?_⟩
  · match s, hs with
    | 0, _ => exact h.1.1.1.1.1.2
    | 1, _ => exact h.1.1.1.1.2
  · match s, hs with
    | 0, _ => exact h.1.1.1.2
    | 1, _ => exact h.1.1.2
  · match s, hs with
    | 0, _ => exact h.1.2
    | 1, _ => exact h.2
def goodAll2 (m n : Nat) : Bool := (subs (pairs m n)).all fun ts => good2 ⟨m, n, ts⟩
end Hm

set_option Elab.async false
set_option linter.all false
set_option maxRecDepth 100000
namespace Hm
theorem g11 : goodAll2 1 1 = true := by decide +kernel
theorem g12 : goodAll2 1 2 = true := by decide +kernel
theorem g13 : goodAll2 1 3 = true := by decide +kernel
theorem g21 : goodAll2 2 1 = true := by decide +kernel
theorem g22 : goodAll2 2 2 = true := by decide +kernel
theorem g23 : goodAll2 2 3 = true := by decide +kernel
theorem g31 : goodAll2 3 1 = true := by decide +kernel
theorem g32 : goodAll2 3 2 = true := by decide +kernel
theorem g33_0 : (((subs (pairs 3 3)).drop (16 * 0)).take 16).all (fun ts => good2 ⟨3, 3, ts⟩) = true := by decide +kernel
theorem g33_1 : (((subs (pairs 3 3)).drop (16 * 1)).take 16).all (fun ts => good2 ⟨3, 3, ts⟩) = true := by decide +kernel
theorem g33_2 : (((subs (pairs 3 3)).drop (16 * 2)).take 16).all (fun ts => good2 ⟨3, 3, ts⟩) = true := by decide +kernel
theorem g33_3 : (((subs (pairs 3 3)).drop (16 * 3)).take 16).all (fun ts => good2 ⟨3, 3, ts⟩) = true := by decide +kernel
theorem g33_4 : (((subs (pairs 3 3)).drop (16 * 4)).take 16).all (fun ts => good2 ⟨3, 3, ts⟩) = true := by decide +kernel
theorem g33_5 : (((subs (pairs 3 3)).drop (16 * 5)).take 16).all (fun ts => good2 ⟨3, 3, ts⟩) = true := by decide +kernel
theorem g33_6 : (((subs (pairs 3 3)).drop (16 * 6)).take 16).all (fun ts => good2 ⟨3, 3, ts⟩) = true := by decide +kernel
theorem g33_7 : (((subs (pairs 3 3)).drop (16 * 7)).take 16).all (fun ts => good2 ⟨3, 3, ts⟩) = true := by decide +kernel
theorem g33_8 : (((subs (pairs 3 3)).drop (16 * 8)).take 16).all (fun ts => good2 ⟨3, 3, ts⟩) = true := by decide +kernel
theorem g33_9 : (((subs (pairs 3 3)).drop (16 * 9)).take 16).all (fun ts => good2 ⟨3, 3, ts⟩) = true := by decide +kernel
theorem g33_10 : (((subs (pairs 3 3)).drop (16 * 10)).take 16).all (fun ts => good2 ⟨3, 3, ts⟩) = true := by decide +kernel
theorem g33_11 : (((subs (pairs 3 3)).drop (16 * 11)).take 16).all (fun ts => good2 ⟨3, 3, ts⟩) = true := by decide +kernel
theorem g33_12 : (((subs (pairs 3 3)).drop (16 * 12)).take 16).all (fun ts => good2 ⟨3, 3, ts⟩) = true := by decide +kernel
theorem g33_13 : (((subs (pairs 3 3)).drop (16 * 13)).take 16).all (fun ts => good2 ⟨3, 3, ts⟩) = true := by decide +kernel
theorem g33_14 : (((subs (pairs 3 3)).drop (16 * 14)).take 16).all (fun ts => good2 ⟨3, 3, ts⟩) = true := by decide +kernel
theorem g33_15 : (((subs (pairs 3 3)).drop (16 * 15)).take 16).all (fun ts => good2 ⟨3, 3, ts⟩) = true := by decide +kernel
theorem g33_16 : (((subs (pairs 3 3)).drop (16 * 16)).take 16).all (fun ts => good2 ⟨3, 3, ts⟩) = true := by decide +kernel
theorem g33_17 : (((subs (pairs 3 3)).drop (16 * 17)).take 16).all (fun ts => good2 ⟨3, 3, ts⟩) = true := by decide +kernel
theorem g33_18 : (((subs (pairs 3 3)).drop (16 * 18)).take 16).all (fun ts => good2 ⟨3, 3, ts⟩) = true := by decide +kernel
theorem g33_19 : (((subs (pairs 3 3)).drop (16 * 19)).take 16).all (fun ts => good2 ⟨3, 3, ts⟩) = true := by decide +kernel
theorem g33_20 : (((subs (pairs 3 3)).drop (16 * 20)).take 16).all (fun ts => good2 ⟨3, 3, ts⟩) = true := by decide +kernel
theorem g33_21 : (((subs (pairs 3 3)).drop (16 * 21)).take 16).all (fun ts => good2 ⟨3, 3, ts⟩) = true := by decide +kernel
theorem g33_22 : (((subs (pairs 3 3)).drop (16 * 22)).take 16).all (fun ts => good2 ⟨3, 3, ts⟩) = true := by decide +kernel
theorem g33_23 : (((subs (pairs 3 3)).drop (16 * 23)).take 16).all (fun ts => good2 ⟨3, 3, ts⟩) = true := by decide +kernel
theorem g33_24 : (((subs (pairs 3 3)).drop (16 * 24)).take 16).all (fun ts => good2 ⟨3, 3, ts⟩) = true := by decide +kernel
theorem g33_25 : (((subs (pairs 3 3)).drop (16 * 25)).take 16).all (fun ts => good2 ⟨3, 3, ts⟩) = true := by decide +kernel
theorem g33_26 : (((subs (pairs 3 3)).drop (16 * 26)).take 16).all (fun ts => good2 ⟨3, 3, ts⟩) = true := by decide +kernel
theorem g33_27 : (((subs (pairs 3 3)).drop (16 * 27)).take 16).all (fun ts => good2 ⟨3, 3, ts⟩) = true := by decide +kernel
theorem g33_28 : (((subs (pairs 3 3)).drop (16 * 28)).take 16).all (fun ts => good2 ⟨3, 3, ts⟩) = true := by decide +kernel
theorem g33_29 : (((subs (pairs 3 3)).drop (16 * 29)).take 16).all (fun ts => good2 ⟨3, 3, ts⟩) = true := by decide +kernel
theorem g33_30 : (((subs (pairs 3 3)).drop (16 * 30)).take 16).all (fun ts => good2 ⟨3, 3, ts⟩) = true := by decide +kernel
theorem g33_31 : (((subs (pairs 3 3)).drop (16 * 31)).take 16).all (fun ts => good2 ⟨3, 3, ts⟩) = true := by decide +kernel
theorem g33 : goodAll2 3 3 = true := by
  have h := chunk_all (fun ts => good2 ⟨3, 3, ts⟩) (subs (pairs 3 3)) 16 32 fun i hi => by
    match i, hi with
    | 0, _ => exact g33_0
    | 1, _ => exact g33_1
    | 2, _ => exact g33_2
    | 3, _ => exact g33_3
    | 4, _ => exact g33_4
    | 5, _ => exact g33_5
    | 6, _ => exact g33_6
    | 7, _ => exact g33_7
    | 8, _ => exact g33_8
    | 9, _ => exact g33_9
    | 10, _ => exact g33_10
    | 11, _ => exact g33_11
    | 12, _ => exact g33_12
    | 13, _ => exact g33_13
    | 14, _ => exact g33_14
    | 15, _ => exact g33_15
    | 16, _ => exact g33_16
    | 17, _ => exact g33_17
    | 18, _ => exact g33_18
    | 19, _ => exact g33_19
    | 20, _ => exact g33_20
    | 21, _ => exact g33_21
    | 22, _ => exact g33_22
    | 23, _ => exact g33_23
    | 24, _ => exact g33_24
    | 25, _ => exact g33_25
    | 26, _ => exact g33_26
    | 27, _ => exact g33_27
    | 28, _ => exact g33_28
    | 29, _ => exact g33_29
    | 30, _ => exact g33_30
    | 31, _ => exact g33_31
    | k + 32, h => exact absurd h (by omega)
  rw [List.take_of_length_le (by decide +kernel)] at h
  exact h
theorem goodEvery {m n : Nat} (h1 : 1 ≤ m) (h2 : m ≤ 3) (h3 : 1 ≤ n) (h4 : n ≤ 3) : goodAll2 m n = true := by
  match m, n, h1, h2, h3, h4 with
  | 1, 1, _, _, _, _ => exact g11
  | 1, 2, _, _, _, _ => exact g12
  | 1, 3, _, _, _, _ => exact g13
  | 2, 1, _, _, _, _ => exact g21
  | 2, 2, _, _, _, _ => exact g22
  | 2, 3, _, _, _, _ => exact g23
  | 3, 1, _, _, _, _ => exact g31
  | 3, 2, _, _, _, _ => exact g32
  | 3, 3, _, _, _, _ => exact g33
theorem good_web {m n : Nat} (h1 : 1 ≤ m) (h2 : m ≤ 3) (h3 : 1 ≤ n) (h4 : n ≤ 3) {ts : List (Nat × Nat)} (hs : ts.Sublist (pairs m n)) : good2 ⟨m, n, ts⟩ = true :=
  List.all_eq_true.mp (goodEvery h1 h2 h3 h4) ts (mem_subs hs)
end Hm

set_option Elab.async false
set_option linter.all false
set_option maxRecDepth 100000
set_option maxHeartbeats 4000000
namespace Hk
open PySem PySem.Spec PySem.W PyProof.Rows L2 Hm
section
variable {X : Cx}
theorem enumTK (K : Frag) {e : Expr} {ta : TA} {p pos tpos : Pos} {elts : List Expr} {kk : Nat} (hg : Gl X "enumerate") (hm : X.mg "enumerate" = none) (ha : PA X [e] ta) (hs : starEach [e] X.env = [(false, eval e X.env)] := by rfl) (h : X.K = K := by rfl) :
    PI X (.Tuple elts kk tpos) (.Call (.Name "enumerate" p) [e] [] pos) (iEnumT K ta) := h ▸ pi_enumT hg hm ha hs
theorem eqDK (K : Frag) (hu : X.A.units + 64 < cLine) (h : X.K = K := by rfl) : OpR X (compareOp .Eq) (rEqD K) := h ▸ op_eqD hu
theorem repTK (K : Frag) (h : X.K = K := by rfl) : OpR X (binaryOp .Mult) (fun x y H Q => rRepT1 K x y H Q ∨ rRepT K x y H Q) := h ▸ op_repT'
end
theorem size_ge {wb : Web} (h1 : 1 ≤ wb.m) (h2 : 1 ≤ wb.n) (s : Nat) : 1 ≤ wb.size s := by
  unfold Web.size
  split
  · exact h1
  · exact h2
theorem row_mem {wb : Web} {half : Nat} (h : okRows wb half = true) {r : List Int} (hr : r ∈ rows wb half) : r.length = wb.size half ∧ ∀ x ∈ r, x ≤ 1000 := by
  unfold okRows at h
  rw [Bool.and_eq_true] at h
  have h2 := List.all_eq_true.mp h.2 (wb.size half) (List.mem_range.mpr (by omega))
  rw [Bool.and_eq_true] at h2
  unfold rows at hr
  obtain ⟨f, hf, rfl⟩ := List.mem_map.mp hr
  have h3 := List.all_eq_true.mp h2.2 f hf
  simp only [Bool.and_eq_true, beq_iff_eq] at h3
  exact ⟨h3.1.1.1, fun x hx => (small_of (List.all_eq_true.mp h3.2 x hx)).2⟩
theorem many_all {c : Int → Int → Bool} {wb : Web} {half : Nat} {ls : List Int} (h : ∀ r ∈ rows wb half, ∀ x ∈ r, ∀ y ∈ ls, c x y = true) : manyC c wb half ls = (rows wb half).length := by
  unfold manyC
  rw [List.filter_eq_self.mpr fun r hr => ?_]
  refine List.all_eq_true.mpr fun z hz => ?_
  exact h r hr z.1 (List.of_mem_zip hz).1 z.2 (List.of_mem_zip hz).2
theorem many_wide {wb : Web} {half : Nat} (h : okRows wb half = true) (k : Nat) : manyC leB wb half (List.replicate k ((10 : Int) ^ (6 : Int).toNat)) = (rows wb half).length :=
  many_all fun r hr x hx y hy => by
    rw [List.eq_of_mem_replicate hy]
    have := (row_mem h hr).2 x hx
    have e : (10 : Int) ^ (6 : Int).toNat = 1000000 := by decide
    rw [e]
    exact decide_eq_true (by omega)
theorem many_none {wb : Web} {half : Nat} (h : nonneg wb half = true) (k : Nat) : manyC geB wb half (List.replicate k 0) = (rows wb half).length :=
  many_all fun r hr x hx y hy => by
    rw [List.eq_of_mem_replicate hy]
    have := List.all_eq_true.mp (List.all_eq_true.mp h r hr) x hx
    exact decide_eq_true (of_decide_eq_true this)
def onesD (k : Nat) : PyData := .list ((List.replicate k (1 : Int)).map PyData.int)
theorem ones_shaped {k : Nat} (h : k ≤ 3) : SeqAt.shaped (onesD k) = true := by
  match k, h with
  | 0, _ => decide +kernel
  | 1, _ => decide +kernel
  | 2, _ => decide +kernel
  | 3, _ => decide +kernel
theorem ones_eqv {k : Nat} (h : k ≤ 3) : PyData.eqv (onesD k) (.list []) = (k == 0) := by
  match k, h with
  | 0, _ => decide +kernel
  | 1, _ => decide +kernel
  | 2, _ => decide +kernel
  | 3, _ => decide +kernel
theorem map_ones {α : Type} (l : List α) : (l.map fun _ => V.int 1) = (List.replicate l.length (1 : Int)).map V.int := by
  induction l with
  | nil => rfl
  | cons x r ih => rw [List.map_cons, ih]; rfl
theorem cmp_ones (c : Int → Int → Bool) (r ls : List Int) : (((r.zip ls).filter fun z => !c z.1 z.2).length == 0) = cmpAll c r ls := by
  unfold cmpAll
  generalize r.zip ls = l
  induction l with
  | nil => rfl
  | cons z l ih =>
    rw [List.filter_cons, List.all_cons]
    cases h : c z.1 z.2 with
    | true => rw [if_neg (by simp), Bool.true_and]; exact ih
    | false => rw [if_pos (by simp), Bool.false_and]; rfl
theorem rep_go {K : Frag} {H : Hp} {Q : VK} {x : Addr} {v : V} {k : Nat} (h1 : 1 ≤ k) (h3 : k ≤ 3) (hx : SqT K H x [v]) (q : ∀ l H', Same H H' → SqT K H' l (List.replicate k v) → Q (.ref l) H') : rRepT1 K (.ref x) (.int (k : Int)) H Q ∨ rRepT K (.ref x) (.int (k : Int)) H Q := by
  by_cases e : k = 1
  · subst e
    exact .inl ⟨x, [v], rfl, rfl, hx, q x H (Same.refl _) hx⟩
  · refine .inr ⟨x, (k : Int), [v], rfl, rfl, hx, (by simp), by omega, by omega, by show 1 ≤ 1000; decide, fun p hp => q p _ (same_new hp _) ?_⟩
    have e1 : (List.replicate (k : Int).toNat [v]).flatten = List.replicate k v := by
      rw [Int.toNat_natCast]
      clear q e h3 h1
      induction k with
      | zero => rfl
      | succ n ih => rw [List.replicate_succ, List.flatten_cons, ih, List.replicate_succ]; rfl
    rw [e1]
    exact st_new
theorem tin_hide {H : Hp} {p : Addr} {c : Nat} {G : Hp} (hG : Same G H) (hp : G p = none) : Same G (hide H p) := fun b o q => by
  rw [hide_at (ne_of_none q hp)]
  exact hG _ _ q
theorem rows_hide {H : Hp} {p : Addr} {c : Nat} (ht : Tin H p c) {us : List V} {ls : List (List Int)} (h : RowsIn H us ls) : RowsIn (hide H p) us ls := paired_imp (fun _ _ ⟨t, h1, h2⟩ => ⟨t, h1, by rw [hide_at (ht.tup_ne h2)]; exact h2⟩) h
section
variable {P : Program} {w : World} {K : PySem.W.Frag} {mg : Str → Option Value} {base : Heap}
/-! ### law -/
abbrev st_law : Stmt := topS 47
abbrev N_law : List Str := ["_law_script", "_law_tin", "_law_net_here", "_law_half", "_law_lines_so", "_law_lap", "_law_limits_so", "_law_under_so", "_law_over_so", "_law_got", "_law_wide_so", "_law_none_so", "_law_own", "_law_k", "_law_its"]
abbrev scB_law : Scope := { kind := .function, names := [(".0", .local), ("_law_own", .local), ("enumerate", .globalImplicit), ("_law_limits_so", .cell)], isGenerator := false, isCoroutine := false }
theorem sc_law : FnScope N_law ["_law_script"] (defScope st_law) := ⟨rfl, rfl, rfl, by decide +kernel, rfl, by decide +kernel, by decide +kernel⟩
def sp_law (K : Frag) : Sp := fun vs H Q _ => ∃ (a : Addr) (ns : List Int), vs = [.ref a] ∧ SqL K H a (ns.map V.int) ∧ ns.length ≤ 63 ∧ ∀ H', Q (.bl true) H'
theorem ok_law {f : Addr} {fd : FuncData} (F : Fun K "law" "law" st_law f fd) (B : Blt mg) (Ch : Cal P w K mg base 8 "_law_by_hand_right" [] sp_hand) (Cb : Cal P w K mg base 1 "_law_box" ["_law_script", "_law_k"] (sp_box K)) (Cc : Cal P w K mg base 1 "_law_cells" ["_law_script", "_law_most_so"] (sp_cells K))
    (Cn : Cal P w K mg base 3 "_law_net" ["_law_tin", "_law_most_so"] (sp_net K)) (Ct : Cal P w K mg base 1 "_law_take" ["_law_tin", "_law_below_so"] sp_take) (Cl : Cal P w K mg base 2 "_law_both_lines" ["_law_net_here"] (sp_both K))
    (C1 : KCal P w K mg base 7 "many_below" (sp_many K leB)) (C2 : KCal P w K mg base 7 "many_above" (sp_many K geB)) (C3 : Cal P w K mg base 4 "_law_lists" ["_law_matter"] (sp_lists K 4)) (C4 : Cal P w K mg base 2 "_law_same" ["_law_got", "_law_due"] (sp_sameL K))
    (C5 : Cal P w K mg base 7 "many_rows" ["web", "side"] (sp_mrows K)) : FnOk P w K mg base CX0 9 f fd ["_law_script"] (sp_law K) := by
  refine F.ok sc_law (fun vs H Q E h => ?_) (fun cdv A outer s H vs Q E hr h => ?_)
  · obtain ⟨a, ns, rfl, _⟩ := h
    rfl
  · obtain ⟨a, ns, rfl, hL, hl, q⟩ := h
    have hr1 := hr.mono (show 1 ≤ 8 by decide)
    have hr2 := hr.mono (show 2 ≤ 8 by decide)
    have hr3 := hr.mono (show 3 ≤ 8 by decide)
    have hr4 := hr.mono (show 4 ≤ 8 by decide)
    have hr7 := hr.mono (show 7 ≤ 8 by decide)
    refine ⟨_, pss_cons (ps_if (pt_not (pt_val (pe_cal0 Ch hr (by rfl)))) (pss_one ps_never) pss_nil)
      (pss_cons (ps_set (i := 1) sc_law.nd rfl (.inr rfl) (pe_cal Cb hr1 (by rfl) (pa_cons (pe_cal Cc hr1 (by rfl) (pa_cons (pv 0) (pa_cons pe_int pa_nil))) (pa_cons pe_int pa_nil))))
      (pss_cons (ps_par (i := 2) (j := 3) rfl sc_law.nd rfl rfl (by decide) rfl rfl (pa_cons (pe_cal Cn hr3 (by rfl) (pa_cons (pv 1) (pa_cons pe_int pa_nil))) (pa_cons (pe_cal Ct hr1 (by rfl) (pa_cons (pv 1) (pa_cons pe_int pa_nil))) pa_nil)) (by rfl))
      (pss_cons (ps_set (i := 4) sc_law.nd rfl (.inl rfl) (pe_ix (ixT K) (pe_cal Cl hr2 (by rfl) (pa_cons (pv 2) pa_nil)) (pv 3) (fun _ _ => rfl)))
      (pss_cons (ps_for PassesOwn.never rfl (pi_range1 (by rfl) B.range (pa_cons pe_int pa_nil)) (pg_name (i := 5) sc_law.nd rfl (.inl rfl))
        (pss_cons (ps_set (i := 6) sc_law.nd rfl (.inr rfl) (pe_callTy (tupOf K) (by rfl) B.tuple boot_tuple (pa_cons
          (pe_lc (own := [("_law_own", 12)]) (g := gName 12) rfl sc_law.nd (pi_range1 (by rfl) B.range (pa_cons (pe_ix (ixT K) (pv 2) (pv 3) (fun _ _ => rfl)) pa_nil)) (blkOk_by (own := [("_law_own", 12)]) (N := N_law) (sc := defScope st_law) (by decide +kernel))
            (fun _ _ _ _ _ => pg_name (i := 12) sc_law.nd rfl (Or.inl rfl)) (fun _ _ _ _ _ => pts_nil) (fun _ _ _ _ _ => pe_cal Ct hr1 (by rfl) (pa_cons (pv 1) (pa_cons pe_int pa_nil)))) pa_nil)))
        (pss_cons (ps_setLc (i := 7) (own := [("_law_own", 12)]) (g := gName 12) rfl sc_law.nd rfl rfl (by rfl) (pi_list (pv 4)) (blkOk_by (own := [("_law_own", 12)]) (N := N_law) (sc := defScope st_law) (by decide +kernel))
            (fun _ _ _ _ _ => pg_name (i := 12) sc_law.nd rfl (Or.inl rfl))
            (fun _ _ _ _ _ => pts_one (pt_cmpR (eqDK K hr.units)
              (pe_lc (own := [("_law_k", 13), ("_law_its", 14)]) (g := gTupK K 2 (gCons (gName 13) (gCons (gName 14) gNil))) rfl sc_law.nd (enumTK K (by rfl) B.enumerate (pa_cons (pv 12) pa_nil)) (blkOk_by (own := [("_law_k", 13), ("_law_its", 14)]) (N := N_law) (sc := scB_law) (by decide +kernel))
                (fun _ _ _ _ _ => pgT K rfl (pgs_cons (pg_name (i := 13) sc_law.nd rfl (Or.inl rfl)) (pgs_cons (pg_name (i := 14) sc_law.nd rfl (Or.inl rfl)) pgs_nil)))
                (fun _ _ _ _ _ => pts_one (pt_cmpR op_gt (pv 14) (pe_ix (ixT K) (pv 6) (pv 13) (fun _ _ => rfl)) (nomark _)))
                (fun _ _ _ _ _ => pe_int))
              (pe_lst pa_nil) (nomark _)))
            (fun _ _ _ _ _ => pv 12))
        (pss_cons (ps_setLc (i := 8) (own := [("_law_own", 12)]) (g := gName 12) rfl sc_law.nd rfl rfl (by rfl) (pi_list (pv 4)) (blkOk_by (own := [("_law_own", 12)]) (N := N_law) (sc := defScope st_law) (by decide +kernel))
            (fun _ _ _ _ _ => pg_name (i := 12) sc_law.nd rfl (Or.inl rfl))
            (fun _ _ _ _ _ => pts_one (pt_cmpR (eqDK K hr.units)
              (pe_lc (own := [("_law_k", 13), ("_law_its", 14)]) (g := gTupK K 2 (gCons (gName 13) (gCons (gName 14) gNil))) rfl sc_law.nd (enumTK K (by rfl) B.enumerate (pa_cons (pv 12) pa_nil)) (blkOk_by (own := [("_law_k", 13), ("_law_its", 14)]) (N := N_law) (sc := scB_law) (by decide +kernel))
                (fun _ _ _ _ _ => pgT K rfl (pgs_cons (pg_name (i := 13) sc_law.nd rfl (Or.inl rfl)) (pgs_cons (pg_name (i := 14) sc_law.nd rfl (Or.inl rfl)) pgs_nil)))
                (fun _ _ _ _ _ => pts_one (pt_cmpR op_lt (pv 14) (pe_ix (ixT K) (pv 6) (pv 13) (fun _ _ => rfl)) (nomark _)))
                (fun _ _ _ _ _ => pe_int))
              (pe_lst pa_nil) (nomark _)))
            (fun _ _ _ _ _ => pv 12))
        (pss_cons (ps_set (i := 9) sc_law.nd rfl (.inl rfl) (pe_lst (pa_cons (pe_cal C1.cal hr7 (by rfl) (pa_cons (pe_cal C3 hr4 (by rfl) (pa_cons (pv 2) pa_nil)) (pa_cons (pv 3) (pa_cons (pe_callTy call_list_of (by rfl) B.list boot_list (pa_cons (pv 6) pa_nil)) pa_nil))))
            (pa_cons (pe_cal C2.cal hr7 (by rfl) (pa_cons (pv 2) (pa_cons (pv 3) (pa_cons (pv 6) pa_nil)))) pa_nil))))
        (pss_one (ps_if (pt_not (pt_val (pe_cal C4 hr2 (by rfl) (pa_cons (pv 9) (pa_cons (pe_lst (pa_cons (pe_len B (pv 7)) (pa_cons (pe_len B (pv 8)) pa_nil))) pa_nil))))) (pss_one ps_never) pss_nil)))))))
      (pss_cons (ps_par (i := 10) (j := 11) rfl sc_law.nd rfl rfl (by decide) rfl rfl (pa_cons (pe_op (repTK K) (pe_tup (pa_cons (pe_op op_pow pe_int pe_int) pa_nil)) (pe_ix (ixT K) (pv 2) (pv 3) (fun _ _ => rfl))) (pa_cons (pe_op (repTK K) (pe_tup (pa_cons pe_int pa_nil)) (pe_ix (ixT K) (pv 2) (pv 3) (fun _ _ => rfl))) pa_nil)) (by rfl))
      (pss_one (ps_ret (pe_cal C4 hr2 (by rfl) (pa_cons (pe_lst (pa_cons (pe_cal C1.cal hr7 (by rfl) (pa_cons (pv 2) (pa_cons (pv 3) (pa_cons (pv 10) pa_nil))))
          (pa_cons (pe_cal C2.cal hr7 (by rfl) (pa_cons (pv 2) (pa_cons (pv 3) (pa_cons (pv 11) pa_nil)))) (pa_cons (pe_cal C5 hr7 (by rfl) (pa_cons (pv 2) (pa_cons (pv 3) pa_nil))) pa_nil))))
        (pa_cons (pe_op op_rep (pe_lst (pa_cons (pe_len B (pv 4)) pa_nil)) pe_int) pa_nil)))))))))), ?_⟩
    refine ⟨rfl, fun H1 s1 => ⟨true, rfl, iteF ?_⟩⟩
    refine ⟨.ref a, rfl, a, ns, rfl, s1.seq hL, hl, fun c ms H2 s2 hc hms => ⟨c, ms, rfl, SqL.of hc, hms, fun p x y hp => ?_⟩⟩
    have ht3 : Tin (upd H2 p (.lst [.int x, .int y, .int 0])) p 0 := ⟨x, y, 0, upd_same, by decide, by decide⟩
    generalize (upd H2 p (.lst [.int x, .int y, .int 0])) = H3 at ht3 ⊢
    refine ⟨.ref p, rfl, p, 0, rfl, ht3, by decide, fun r H4 G4 wb g4 gp dW dr ht4 => ?_⟩
    refine ⟨.ref p, rfl, p, 2, 0 + 60, rfl, ht4, by decide, by decide, by decide, fun hf z hlt ht5 => ⟨_, _, rfl, ?_⟩⟩
    have hs : hf ≤ 1 := by omega
    have g5 := same_mut (o := z) g4 gp
    generalize upd H4 p z = H5 at ht5 g5 ⊢
    have hsm : Small wb := ⟨dr.m3, dr.n3, Nat.le_trans (ties_subs dr.m3 dr.n3 dr.asc dr.rg).length_le (pairs_len wb.m (by have := dr.m3; omega) wb.n (by have := dr.n3; omega))⟩
    have hfine : Fine wb := good_of (w := wb) (good_web dr.m1 dr.m3 dr.n1 dr.n3 (ties_subs dr.m3 dr.n3 dr.asc dr.rg)) (not_apart dr.conn dr.m1)
    have hk3 : wb.size hf ≤ 3 := size_le hsm
    have hk1 : 1 ≤ wb.size hf := size_ge dr.m1 dr.n1 hf
    refine ⟨.ref r, rfl, .ref r, wb, rfl, dW.same g5, hsm, dr.m1, dr.n1, dr.rg, fun r2 a0 a1 us0 us1 ls0 ls1 H6 s6 hr2' ha0 ha1 hu0 hu1 hR0 hR1 hL0 hL1 => ?_⟩
    obtain ⟨al, us, ls, hat, hal, hus, hRs, hLs⟩ : ∃ (al : Addr) (us : List V) (ls : List (List Int)), atI [V.ref a0, .ref a1] (hf : Int) = some (.ref al) ∧ H5 al = none ∧ H6 al = some (.lst us) ∧ RowsIn H6 us ls ∧ LinesOk wb hf ls := by
      have : hf = 0 ∨ hf = 1 := by omega
      rcases this with e | e
      · subst e
        exact ⟨a0, us0, ls0, atI_nat (j := 0) rfl, ha0, hu0, hR0, hL0⟩
      · subst e
        exact ⟨a1, us1, ls1, atI_nat (j := 1) rfl, ha1, hu1, hR1, hL1⟩
    refine ⟨.int (hf : Int), rfl, r2, _, _, .ref al, rfl, rfl, SqT.of hr2', hat, ?_⟩
    have els : ls = rows wb hf := same_eq (hfine.same hf hs) hLs.1 hLs.2
    have ht6 := ht5.same s6
    have nalp : al ≠ p := fun e => ht5.ne (by rw [← e]; exact hal)
    have g6 : Same G4 (hide H6 p) := tin_hide (c := 0) (g5.trans s6) gp
    have dW6 := dW.same g6
    have hus6 : (hide H6 p) al = some (.lst us) := by rw [hide_at nalp]; exact hus
    have hRs6 := rows_hide ht6 hRs
    have gS : Same (hide H6 p) H6 := hide_same _ _
    have gp6 : (hide H6 p) p = none := hide_none _ _
    generalize hide H6 p = G6 at dW6 hus6 hRs6 gS gp6
    have hul : us.length = ls.length := Paired.length hRs
    have hll : ∀ l ∈ ls, l.length = wb.size hf := fun l hl => by rw [els] at hl; exact (row_mem (hfine.rows hf hs) hl).1
    have hrl2 : ls.length ≤ 2000 := by rw [els]; exact rows_len (hfine.rows hf hs)
    refine ⟨_, rfl, by omega, by omega, for_it walk_range (fun i σ H => ∃ y5 y6 y7 y8 y9, σ = [some (.ref a), some (.ref p), some (.ref r), some (.int (hf : Int)), some (.ref al), y5, y6, y7, y8, y9, none, none, none, none, none] ∧ Same G6 H ∧ Tin H p (61 + 10 * i))
      ⟨none, none, none, none, none, rfl, gS, ht6.mono (by omega)⟩ (fun _ _ _ _ _ => trivial) (fun i x σ H7 H7' hi pp hY => ?_) (fun σ H7 pp => ?_)⟩
    · obtain ⟨y5, y6, y7, y8, y9, rfl, s7, ht7⟩ := pp
      obtain ⟨rfl, rfl⟩ := hY
      have hi3 : i < 3 := hi
      obtain ⟨wa, ta, ew, hWT, hWt⟩ := dp_web (dW6.same s7)
      cases ew
      refine ⟨.ref r, rfl, .int (hf : Int), rfl, r, _, _, .int ((wb.size hf : Nat) : Int), rfl, rfl, hWT, web_at (H := H7') (K := K) (a := r) hs, _, rfl, by omega, by omega, fun D hD => ?_⟩
      have gD : G6 D = none := s7.free hD
      have npD : p ≠ D := fun e => ht7.ne (by rw [e]; exact hD)
      refine lc_it walk_range (fun j H8 => ∃ lim : List Int, H8 D = some (.lst (lim.map V.int)) ∧ lim.length = j ∧ (∀ x ∈ lim, 0 ≤ x) ∧ Same G6 H8 ∧ Tin H8 p (61 + 10 * i + j)) ⟨[], upd_same, rfl, (fun x hx => by cases hx), s7.trans (same_new hD _), ht7.off npD⟩ (fun _ _ _ _ => trivial) (fun j x H8 H8' hj pp hY => ?_) (fun H8 pp => ?_)
      · rw [Int.toNat_natCast] at hj
        obtain ⟨lim, hl1, hl2, hl3, hl4, hl5⟩ := pp
        obtain ⟨rfl, rfl⟩ := hY
        refine ⟨rfl, .ref p, rfl, p, 3, 61 + 10 * i + j, rfl, hl5, by decide, by decide, by omega, fun v z hv ht8 => ?_⟩
        refine ⟨lim.map V.int, by rw [upd_ne npD.symm]; exact hl1, by rw [List.length_map]; exact small1000 (by omega), lim ++ [(v : Int)], by rw [upd_same, List.map_append]; rfl, by rw [List.length_append, hl2]; rfl, ?_, same_mut (same_mut hl4 gp6) gD, ht8.off npD⟩
        intro x hx
        rcases List.mem_append.mp hx with h | h
        · exact hl3 x h
        · rw [List.mem_singleton.mp h]; omega
      · rw [Int.toNat_natCast] at pp
        obtain ⟨lim, hl1, hlimL, hl3, hl4, hl5⟩ := pp
        refine ⟨D, _, rfl, .inl ⟨SqL.of hl1, fun lt hlt0 => ?_⟩⟩
        have n8 := same_new hlt0 (.tup (lim.map V.int))
        have s8 := hl4.trans n8
        have ht8 := hl5.same n8
        have hlt8 : (upd H8 lt (.tup (lim.map V.int))) lt = some (.tup (lim.map V.int)) := upd_same
        generalize (upd H8 lt (.tup (lim.map V.int))) = H9 at s8 ht8 hlt8 ⊢
        refine ⟨.ref al, rfl, al, rfl, ⟨_, SqL.of (s8 _ _ hus6)⟩, fun D1 hD1 => lc_filt (walk_list (xs := us)) (fun i => (us.zip ls)[i]?.bind fun z => if cmpAll leB z.2 lim = true then some z.1 else none) (by omega) hD1 (fun H' s => SqL.of (s _ _ (s8 _ _ hus6))) ?_ ?_⟩
        · intro i x H2 H2' hi s2 hD1 hY R1 R0 g1 g0
          obtain ⟨rfl, hx⟩ := hY
          obtain ⟨l, hl, t, rfl, hlt⟩ := paired_at hRs6 hx
          have ez : (us.zip ls)[i]? = some (.ref t, l) := by
            rw [List.getElem?_zip_eq_some]
            exact ⟨hx, hl⟩
          rw [ez] at g1 g0
          have hllen : l.length = lim.length := by rw [hll l (List.mem_of_getElem? hl), hlimL]
          have hT9 : SqT K H2' t (l.map V.int) := SqT.of (s2 _ _ (s8 _ _ hlt))
          have hM9 : SqT K H2' lt (lim.map V.int) := SqT.of (s2 _ _ hlt8)
          have hn9 : (l.map V.int).length = (l.zip lim).length := by rw [List.length_map, List.length_zip, hllen, Nat.min_self]
          refine ⟨rfl, .ref t, rfl, t, _, rfl, hT9, fun E1 hE1 => lc_filt (walk_enumT (xs := l.map V.int)) (fun j => (l.zip lim)[j]?.bind fun z => if (!leB z.1 z.2) = true then some (V.int 1) else none) (by rw [List.length_map]; omega) hE1 (fun H' s => same_seqT s hT9) ?_ ?_⟩
          · intro j w1 H3 H3' hj s3 hD3 hY R1' R0' g1' g0'
            rw [List.length_map] at hj
            obtain ⟨T, y1, y2, rfl, hT, rfl, ey, ez⟩ := hY
            have ey' := Option.some.inj ey
            subst ey'
            replace ez : (l.map V.int)[j]? = some y2 := ez
            rw [List.getElem?_map, List.getElem?_eq_getElem hj] at ez
            have ez' := Option.some.inj ez
            subst ez'
            have hj2 : j < lim.length := by omega
            have ew : (l.zip lim)[j]? = some (l[j], lim[j]) := by
              rw [List.getElem?_zip_eq_some]
              exact ⟨List.getElem?_eq_getElem hj, List.getElem?_eq_getElem hj2⟩
            rw [ew] at g1' g0'
            have nT := same_new hT (.tup [.int ((j : Nat) : Int), .int l[j]])
            have egd : lim.getD j 0 = lim[j] := by rw [List.getD_eq_getElem?_getD, List.getElem?_eq_getElem hj2]; rfl
            refine ⟨T, _, rfl, st_new, rfl, _, _, rfl, _, _, rfl, rfl, rfl, .int l[j], rfl, .ref lt, rfl, .int (j : Int), rfl, lt, _, _, .int (lim.getD j 0), rfl, rfl, same_seqT (s3.trans nT) hM9, at_ints hj2, _, _, rfl, rfl, _, rfl, ?_⟩
            rw [egd]
            have ec : decide (lim[j] < l[j]) = (!leB l[j] lim[j]) := by
              unfold leB
              by_cases q : lim[j] < l[j]
              · rw [decide_eq_true q, decide_eq_false (by omega)]; rfl
              · rw [decide_eq_false q, decide_eq_true (by omega)]; rfl
            show (if decide (lim[j] < l[j]) = true then _ else _)
            rw [ec]
            refine ite2 (fun z => ?_) (fun z => ?_)
            · exact g1' _ _ (by show (if (!leB l[j] lim[j]) = true then some (V.int 1) else none) = _; rw [if_pos z]) nT
            · exact g0' (by show (if (!leB l[j] lim[j]) = true then some (V.int 1) else none) = _; rw [if_neg z]) _ nT
          · intro H3 s3 hD3
            rw [hn9, fm_if (l.zip lim) (fun z => !leB z.1 z.2) (fun _ => V.int 1), map_ones] at hD3
            have hk9 : ((l.zip lim).filter fun z => !leB z.1 z.2).length ≤ 3 := by
              refine Nat.le_trans (List.length_filter_le _ _) ?_
              rw [List.length_zip]
              omega
            refine ⟨by show 0 ≤ sizeLine; decide, fun E2 hE2 => ⟨onesD ((l.zip lim).filter fun z => !leB z.1 z.2).length, .list [], Dp.lst (SqL.of ((same_new hE2 _) _ _ hD3)) (DpAll.ints _), Dp.lst (SqL.of upd_same) .nil, ones_shaped hk9, by decide +kernel, _, rfl, ?_⟩⟩
            rw [ones_eqv hk9, cmp_ones]
            refine ite2 (fun z => ?_) (fun z => ?_)
            · exact ⟨.ref t, rfl, g1 _ _ (by show (if cmpAll leB l lim = true then some (V.ref t) else none) = _; rw [if_pos z]) (s3.trans (same_new hE2 _))⟩
            · exact g0 (by show (if cmpAll leB l lim = true then some (V.ref t) else none) = _; rw [if_neg z]) _ (s3.trans (same_new hE2 _))
        · intro H10 s10 hU
          have ezl : us.length = (us.zip ls).length := by rw [List.length_zip, hul, Nat.min_self]
          rw [ezl, fm_if (us.zip ls) (fun z => cmpAll leB z.2 lim) (fun z => z.1)] at hU
          have s10' := s8.trans s10
          have hlt10 := s10 _ _ hlt8
          have ht10 := ht8.same s10
          refine ⟨.ref al, rfl, al, rfl, ⟨_, SqL.of (s10' _ _ hus6)⟩, fun D2 hD2 => lc_filt (walk_list (xs := us)) (fun i => (us.zip ls)[i]?.bind fun z => if cmpAll geB z.2 lim = true then some z.1 else none) (by omega) hD2 (fun H' s => SqL.of (s _ _ (s10' _ _ hus6))) ?_ ?_⟩
          · intro i x H2 H2' hi s2 hD1 hY R1 R0 g1 g0
            obtain ⟨rfl, hx⟩ := hY
            obtain ⟨l, hl, t, rfl, hlt⟩ := paired_at hRs6 hx
            have ez : (us.zip ls)[i]? = some (.ref t, l) := by
              rw [List.getElem?_zip_eq_some]
              exact ⟨hx, hl⟩
            rw [ez] at g1 g0
            have hllen : l.length = lim.length := by rw [hll l (List.mem_of_getElem? hl), hlimL]
            have hT9 : SqT K H2' t (l.map V.int) := SqT.of (s2 _ _ (s10' _ _ hlt))
            have hM9 : SqT K H2' lt (lim.map V.int) := SqT.of (s2 _ _ hlt10)
            have hn9 : (l.map V.int).length = (l.zip lim).length := by rw [List.length_map, List.length_zip, hllen, Nat.min_self]
            refine ⟨rfl, .ref t, rfl, t, _, rfl, hT9, fun E1 hE1 => lc_filt (walk_enumT (xs := l.map V.int)) (fun j => (l.zip lim)[j]?.bind fun z => if (!geB z.1 z.2) = true then some (V.int 1) else none) (by rw [List.length_map]; omega) hE1 (fun H' s => same_seqT s hT9) ?_ ?_⟩
            · intro j w1 H3 H3' hj s3 hD3 hY R1' R0' g1' g0'
              rw [List.length_map] at hj
              obtain ⟨T, y1, y2, rfl, hT, rfl, ey, ez⟩ := hY
              have ey' := Option.some.inj ey
              subst ey'
              replace ez : (l.map V.int)[j]? = some y2 := ez
              rw [List.getElem?_map, List.getElem?_eq_getElem hj] at ez
              have ez' := Option.some.inj ez
              subst ez'
              have hj2 : j < lim.length := by omega
              have ew : (l.zip lim)[j]? = some (l[j], lim[j]) := by
                rw [List.getElem?_zip_eq_some]
                exact ⟨List.getElem?_eq_getElem hj, List.getElem?_eq_getElem hj2⟩
              rw [ew] at g1' g0'
              have nT := same_new hT (.tup [.int ((j : Nat) : Int), .int l[j]])
              have egd : lim.getD j 0 = lim[j] := by rw [List.getD_eq_getElem?_getD, List.getElem?_eq_getElem hj2]; rfl
              refine ⟨T, _, rfl, st_new, rfl, _, _, rfl, _, _, rfl, rfl, rfl, .int l[j], rfl, .ref lt, rfl, .int (j : Int), rfl, lt, _, _, .int (lim.getD j 0), rfl, rfl, same_seqT (s3.trans nT) hM9, at_ints hj2, _, _, rfl, rfl, _, rfl, ?_⟩
              rw [egd]
              have ec : decide (l[j] < lim[j]) = (!geB l[j] lim[j]) := by
                unfold geB
                by_cases q : l[j] < lim[j]
                · rw [decide_eq_true q, decide_eq_false (by omega)]; rfl
                · rw [decide_eq_false q, decide_eq_true (by omega)]; rfl
              show (if decide (l[j] < lim[j]) = true then _ else _)
              rw [ec]
              refine ite2 (fun z => ?_) (fun z => ?_)
              · exact g1' _ _ (by show (if (!geB l[j] lim[j]) = true then some (V.int 1) else none) = _; rw [if_pos z]) nT
              · exact g0' (by show (if (!geB l[j] lim[j]) = true then some (V.int 1) else none) = _; rw [if_neg z]) _ nT
            · intro H3 s3 hD3
              rw [hn9, fm_if (l.zip lim) (fun z => !geB z.1 z.2) (fun _ => V.int 1), map_ones] at hD3
              have hk9 : ((l.zip lim).filter fun z => !geB z.1 z.2).length ≤ 3 := by
                refine Nat.le_trans (List.length_filter_le _ _) ?_
                rw [List.length_zip]
                omega
              refine ⟨by show 0 ≤ sizeLine; decide, fun E2 hE2 => ⟨onesD ((l.zip lim).filter fun z => !geB z.1 z.2).length, .list [], Dp.lst (SqL.of ((same_new hE2 _) _ _ hD3)) (DpAll.ints _), Dp.lst (SqL.of upd_same) .nil, ones_shaped hk9, by decide +kernel, _, rfl, ?_⟩⟩
              rw [ones_eqv hk9, cmp_ones]
              refine ite2 (fun z => ?_) (fun z => ?_)
              · exact ⟨.ref t, rfl, g1 _ _ (by show (if cmpAll geB l lim = true then some (V.ref t) else none) = _; rw [if_pos z]) (s3.trans (same_new hE2 _))⟩
              · exact g0 (by show (if cmpAll geB l lim = true then some (V.ref t) else none) = _; rw [if_neg z]) _ (s3.trans (same_new hE2 _))
          · intro H11 s11 hO
            rw [ezl, fm_if (us.zip ls) (fun z => cmpAll geB z.2 lim) (fun z => z.1)] at hO
            have s11' := s10'.trans s11
            have hlt11 := s11 _ _ hlt10
            have ht11 := ht10.same s11
            have hU11 := s11 _ _ hU
            have hW11 := dW6.same s11'
            have h9 : wb.ties.length ≤ 1000 := Nat.le_trans hsm.2.2 (by decide)
            have hlim3 : lim.length ≤ 1000 := by omega
            refine ⟨.ref r, rfl, .ref r, encW wb, H11, rfl, Same.refl _, hW11, fit_W h9, fun v8 G8 H12 e8 d8 => ?_⟩
            have hlt12 := e8.hh _ _ hlt11
            refine ⟨.int (hf : Int), rfl, .ref lt, rfl, lt, _, rfl, .inr (SqT.of hlt12), fun l9 hl9 => ?_⟩
            have n9 := same_new hl9 (.lst (lim.map V.int))
            refine ⟨v8, .ref l9, lstX 4 (encW wb), lstI lim, wb, hf, lim, rfl, d8.same (e8.gh.trans n9), fit_lW h9, tupX_lstW wb, hfine.web, hsm, hs, hfine.rows hf hs, Dp.lstI (SqL.of upd_same), fit_L hlim3, tupX_L lim, hlimL, hl3, fun H13 s13 => ?_⟩
            have s13' := e8.hh.trans (n9.trans s13)
            refine ⟨.ref r, rfl, .int (hf : Int), rfl, .ref lt, rfl, .ref r, .ref lt, encW wb, tupD lim, wb, hf, lim, rfl, hW11.same s13', fit_W h9, tupX_W wb, hfine.web, hsm, hs, hfine.rows hf hs, Dp.tupI (SqT.of (s13' _ _ hlt11)), fit_I hlim3, tupX_I lim, hlimL, hl3, fun H14 s14 => ?_⟩
            refine ⟨by show 2 ≤ sizeLine; decide, fun gt hgt => ?_⟩
            have n14 := same_new hgt (.lst [V.int ((manyC leB wb hf lim : Nat) : Int), .int ((manyC geB wb hf lim : Nat) : Int)])
            have s15 := s13'.trans (s14.trans n14)
            refine ⟨.ref gt, rfl, .ref D1, rfl, D1, _, rfl, .inl (SqL.of (s15 _ _ hU11)), .ref D2, rfl, D2, _, rfl, .inl (SqL.of (s15 _ _ hO)), by show 2 ≤ sizeLine; decide, fun l15 hl15 => ?_⟩
            have n15 := same_new hl15 (.lst [V.int (((((us.zip ls).filter fun z => cmpAll leB z.2 lim).map fun z => z.1).length : Nat) : Int), .int (((((us.zip ls).filter fun z => cmpAll geB z.2 lim).map fun z => z.1).length : Nat) : Int)])
            refine ⟨gt, l15, [((manyC leB wb hf lim : Nat) : Int), ((manyC geB wb hf lim : Nat) : Int)], [(((((us.zip ls).filter fun z => cmpAll leB z.2 lim).map fun z => z.1).length : Nat) : Int), (((((us.zip ls).filter fun z => cmpAll geB z.2 lim).map fun z => z.1).length : Nat) : Int)], rfl, SqL.of (n15 _ _ upd_same), SqL.of upd_same, ?_, by show 2 ≤ 1000; decide, fun H16 s16 => ⟨true, rfl, iteF ?_⟩⟩
            · rw [filt_len (fun r => cmpAll leB r lim) us ls hul, filt_len (fun r => cmpAll geB r lim) us ls hul, els]
              rfl
            · exact ⟨_, _, _, _, _, rfl, s11'.trans (s15.trans (n15.trans s16)), (ht11.same (s15.trans (n15.trans s16))).mono (by omega)⟩
    · obtain ⟨y5, y6, y7, y8, y9, rfl, s7, ht7⟩ := pp
      obtain ⟨wa, ta, ew, hWT, hWt⟩ := dp_web (dW6.same s7)
      cases ew
      have h9 : wb.ties.length ≤ 1000 := Nat.le_trans hsm.2.2 (by decide)
      have hW7 := dW6.same s7
      refine ⟨10, 6, rfl, rfl, ⟨by decide, by decide, by decide⟩, by show 1 ≤ sizeLine; decide, fun x1 hx1 => ?_⟩
      have n1 := same_new hx1 (.tup [V.int ((10 : Int) ^ (6 : Int).toNat)])
      refine ⟨.ref r, rfl, .int (hf : Int), rfl, r, _, _, .int ((wb.size hf : Nat) : Int), rfl, rfl, same_seqT n1 hWT, web_at (H := H7) (K := K) (a := r) hs, rep_go hk1 hk3 st_new fun wv H8 s8 hwv => ?_⟩
      refine ⟨by show 1 ≤ sizeLine; decide, fun x2 hx2 => ?_⟩
      have n2 := same_new hx2 (.tup [V.int 0])
      have s9 := n1.trans (s8.trans n2)
      refine ⟨.ref r, rfl, .int (hf : Int), rfl, r, _, _, .int ((wb.size hf : Nat) : Int), rfl, rfl, same_seqT s9 hWT, web_at (H := H7) (K := K) (a := r) hs, rep_go hk1 hk3 st_new fun nv H10 s10 hnv => ⟨_, _, rfl, ?_⟩⟩
      have hwv10 := same_seqT (n2.trans s10) hwv
      have s10' := s9.trans s10
      have hW10 := hW7.same s10'
      have ew1 : List.replicate (wb.size hf) (V.int ((10 : Int) ^ (6 : Int).toNat)) = (List.replicate (wb.size hf) ((10 : Int) ^ (6 : Int).toNat)).map V.int := by rw [List.map_replicate]
      have en1 : List.replicate (wb.size hf) (V.int 0) = (List.replicate (wb.size hf) (0 : Int)).map V.int := by rw [List.map_replicate]
      rw [ew1] at hwv10
      rw [en1] at hnv
      refine ⟨.ref r, rfl, .int (hf : Int), rfl, .ref wv, rfl, .ref r, .ref wv, encW wb, tupD (List.replicate (wb.size hf) ((10 : Int) ^ (6 : Int).toNat)), wb, hf, List.replicate (wb.size hf) ((10 : Int) ^ (6 : Int).toNat), rfl, hW10, fit_W h9, tupX_W wb, hfine.web, hsm, hs, hfine.rows hf hs, Dp.tupI hwv10, fit_I (by rw [List.length_replicate]; omega), tupX_I _, List.length_replicate, fun x hx => by rw [List.eq_of_mem_replicate hx]; decide, fun H11 s11 => ?_⟩
      refine ⟨.ref r, rfl, .int (hf : Int), rfl, .ref nv, rfl, .ref r, .ref nv, encW wb, tupD (List.replicate (wb.size hf) 0), wb, hf, List.replicate (wb.size hf) 0, rfl, hW10.same s11, fit_W h9, tupX_W wb, hfine.web, hsm, hs, hfine.rows hf hs, Dp.tupI (same_seqT s11 hnv), fit_I (by rw [List.length_replicate]; omega), tupX_I _, List.length_replicate, fun x hx => by rw [List.eq_of_mem_replicate hx]; decide, fun H12 s12 => ?_⟩
      refine ⟨.ref r, rfl, .int (hf : Int), rfl, .ref r, encW wb, wb, hf, rfl, hW10.same (s11.trans s12), fit_W h9, tupX_W wb, hfine.web, hsm, hs, hfine.rows hf hs, fun H13 s13 => ?_⟩
      refine ⟨by show 3 ≤ sizeLine; decide, fun l1 hl1 => ?_⟩
      have n3 := same_new hl1 (.lst [V.int ((manyC leB wb hf (List.replicate (wb.size hf) ((10 : Int) ^ (6 : Int).toNat)) : Nat) : Int), .int ((manyC geB wb hf (List.replicate (wb.size hf) 0) : Nat) : Int), .int (((rows wb hf).length : Nat) : Int)])
      have s14 := (s10'.trans s11).trans ((s12.trans s13).trans n3)
      refine ⟨.ref al, rfl, al, us, rfl, .inl (SqL.of (s14 _ _ (s7 _ _ hus6))), by show 1 ≤ sizeLine; decide, fun l2 hl2 => ?_⟩
      have n4 := same_new hl2 (.lst [V.int ((us.length : Nat) : Int)])
      refine ⟨l2, 3, _, rfl, rfl, upd_same, by decide, by decide, by show 1 * 3 ≤ sizeLine; decide, fun l3 hl3 => ?_⟩
      have n5 := same_new hl3 (.lst (List.replicate (3 : Int).toNat [V.int ((us.length : Nat) : Int)]).flatten)
      refine ⟨l1, l3, [((manyC leB wb hf (List.replicate (wb.size hf) ((10 : Int) ^ (6 : Int).toNat)) : Nat) : Int), ((manyC geB wb hf (List.replicate (wb.size hf) 0) : Nat) : Int), (((rows wb hf).length : Nat) : Int)], [((us.length : Nat) : Int), ((us.length : Nat) : Int), ((us.length : Nat) : Int)], rfl, SqL.of (n5 _ _ (n4 _ _ upd_same)), SqL.of upd_same, ?_, by show 3 ≤ 1000; decide, fun H15 s15 => q H15⟩
      rw [many_wide (hfine.rows hf hs), many_none (hfine.nn hf hs), hul, els]
end
end Hk

set_option Elab.async false
set_option linter.all false
set_option maxRecDepth 100000
set_option maxHeartbeats 4000000
namespace Hk
open PySem PySem.Spec PyProof.Rows L2 Hm
/-! ### what the top has written -/
structure Srcs (K : PySem.W.Frag) (mg : Str → Option Value) : Prop where
  s4 : Src K mg "is_number" (topS 4) ["thing"]
  s5 : Src K mg "is_from" (topS 5) ["thing", "least"]
  s6 : Src K mg "is_within" (topS 6) ["thing", "least", "most"]
  s7 : Src K mg "is_long" (topS 7) ["thing", "length"]
  s8 : Src K mg "tupled" (topS 8) ["value"]
  s9 : Src K mg "ascends" (topS 9) ["row"]
  s10 : Src K mg "set_of" (topS 10) ["row"]
  s11 : Src K mg "are_numbers" (topS 11) ["thing"]
  s13 : Src K mg "is_pair" (topS 13) ["thing"]
  s14 : Src K mg "is_tie_of" (topS 14) ["many", "number", "thing"]
  s15 : Src K mg "marked" (topS 15) ["marks", "many", "tie"]
  s16 : Src K mg "grown_from" (topS 16) ["marks", "many", "ties"]
  s17 : Src K mg "hangs_in" (topS 17) ["many", "number", "ties"]
  s18 : Src K mg "is_web" (topS 18) ["thing"]
  s19 : Src K mg "sure_web" (topS 19) ["web"]
  s20 : Src K mg "sure_side" (topS 20) ["side"]
  s21 : Src K mg "neighbours_in" (topS 21) ["web", "side", "lot"]
  s22 : Src K mg "pieces_in" (topS 22) ["web", "side", "lot"]
  s23 : Src K mg "rank_in" (topS 23) ["web", "side", "lot"]
  s26 : Src K mg "ranks_by" (topS 26) ["web", "side"]
  s27 : Src K mg "numbers_next" (topS 27) ["ranks", "told", "place"]
  s28 : Src K mg "rows_in" (topS 28) ["web", "side"]
  s30 : Src K mg "many_rows" (topS 30) ["web", "side"]
  s31 : Src K mg "sure_limits" (topS 31) ["web", "side", "limits"]
  s32 : Src K mg "many_below" (topS 32) ["web", "side", "limits"]
  s33 : Src K mg "many_above" (topS 33) ["web", "side", "limits"]
  s35 : Src K mg "_law_box" (topS 35) ["_law_script", "_law_k"]
  s36 : Src K mg "_law_take" (topS 36) ["_law_tin", "_law_below_so"]
  s37 : Src K mg "_law_cells" (topS 37) ["_law_script", "_law_most_so"]
  s38 : Src K mg "_law_of" (topS 38) ["_law_tin", "_law_goods_so"]
  s39 : Src K mg "_law_pick" (topS 39) ["_law_tin", "_law_goods_so", "_law_count_so"]
  s40 : Src K mg "_law_lists" (topS 40) ["_law_matter"]
  s41 : Src K mg "_law_same" (topS 41) ["_law_got", "_law_due"]
  s42 : Src K mg "_law_all_trees" (topS 42) ["_law_net_here"]
  s43 : Src K mg "_law_line" (topS 43) ["_law_net_here", "_law_boughs", "_law_half"]
  s44 : Src K mg "_law_net" (topS 44) ["_law_tin", "_law_most_so"]
  s45 : Src K mg "_law_both_lines" (topS 45) ["_law_net_here"]
  s46 : Src K mg "_law_by_hand_right" (topS 46) []
theorem src_mk {K : PySem.W.Frag} {h : Heap} {mg : Str → Option Value} {x : Str} {st : Stmt} {ps : List Str} {f : Addr} {od an : Option Addr} {sl : Array (Option Value)} {oc kV dc pm cd ct : Value} (X : K.In h) (G : h.Ns mainGlobals mg)
    (hb : ∀ (kV doc pm : Value) (an : Option Addr) (cdv ct : Value) (us : List Value), us.length = ps.length → bindArgs (PySem.W.fnOf x x (defArgs st) (defBody st) (defScope st) .none kV doc pm an cdv ct) ⟨us, []⟩ = pure (ps.zip us))
    (a : PySem.W.nsIn K mainGlobals x = some (some (.ref f))) (l : K.lookup f = some ⟨oc, od, .func (PySem.W.fnOf x x (defArgs st) (defBody st) (defScope st) .none kV dc pm an cd ct), sl⟩) (c : PySem.W.codeIn K cd x = true) (k : PySem.W.keepIn K (.ref f) = true) : Src K mg x st ps := by
  have F := fun_mk (st := st) l c k
  exact ⟨f, _, F, F.binds hb, PySem.W.mg_of X G a⟩
theorem hb4 (kV doc pm : Value) (an : Option Addr) (cdv ct : Value) (us : List Value) (hl : us.length = (["thing"] : List Str).length) : bindArgs (PySem.W.fnOf "is_number" "is_number" (defArgs (topS 4)) (defBody (topS 4)) (defScope (topS 4)) .none kV doc pm an cdv ct) ⟨us, []⟩ = pure ((["thing"] : List Str).zip us) :=
  match us, hl with | [_], _ => rfl
theorem hb5 (kV doc pm : Value) (an : Option Addr) (cdv ct : Value) (us : List Value) (hl : us.length = (["thing", "least"] : List Str).length) : bindArgs (PySem.W.fnOf "is_from" "is_from" (defArgs (topS 5)) (defBody (topS 5)) (defScope (topS 5)) .none kV doc pm an cdv ct) ⟨us, []⟩ = pure ((["thing", "least"] : List Str).zip us) :=
  match us, hl with | [_, _], _ => rfl
theorem hb6 (kV doc pm : Value) (an : Option Addr) (cdv ct : Value) (us : List Value) (hl : us.length = (["thing", "least", "most"] : List Str).length) : bindArgs (PySem.W.fnOf "is_within" "is_within" (defArgs (topS 6)) (defBody (topS 6)) (defScope (topS 6)) .none kV doc pm an cdv ct) ⟨us, []⟩ = pure ((["thing", "least", "most"] : List Str).zip us) :=
  match us, hl with | [_, _, _], _ => rfl
theorem hb7 (kV doc pm : Value) (an : Option Addr) (cdv ct : Value) (us : List Value) (hl : us.length = (["thing", "length"] : List Str).length) : bindArgs (PySem.W.fnOf "is_long" "is_long" (defArgs (topS 7)) (defBody (topS 7)) (defScope (topS 7)) .none kV doc pm an cdv ct) ⟨us, []⟩ = pure ((["thing", "length"] : List Str).zip us) :=
  match us, hl with | [_, _], _ => rfl
theorem hb8 (kV doc pm : Value) (an : Option Addr) (cdv ct : Value) (us : List Value) (hl : us.length = (["value"] : List Str).length) : bindArgs (PySem.W.fnOf "tupled" "tupled" (defArgs (topS 8)) (defBody (topS 8)) (defScope (topS 8)) .none kV doc pm an cdv ct) ⟨us, []⟩ = pure ((["value"] : List Str).zip us) :=
  match us, hl with | [_], _ => rfl
theorem hb9 (kV doc pm : Value) (an : Option Addr) (cdv ct : Value) (us : List Value) (hl : us.length = (["row"] : List Str).length) : bindArgs (PySem.W.fnOf "ascends" "ascends" (defArgs (topS 9)) (defBody (topS 9)) (defScope (topS 9)) .none kV doc pm an cdv ct) ⟨us, []⟩ = pure ((["row"] : List Str).zip us) :=
  match us, hl with | [_], _ => rfl
theorem hb10 (kV doc pm : Value) (an : Option Addr) (cdv ct : Value) (us : List Value) (hl : us.length = (["row"] : List Str).length) : bindArgs (PySem.W.fnOf "set_of" "set_of" (defArgs (topS 10)) (defBody (topS 10)) (defScope (topS 10)) .none kV doc pm an cdv ct) ⟨us, []⟩ = pure ((["row"] : List Str).zip us) :=
  match us, hl with | [_], _ => rfl
theorem hb11 (kV doc pm : Value) (an : Option Addr) (cdv ct : Value) (us : List Value) (hl : us.length = (["thing"] : List Str).length) : bindArgs (PySem.W.fnOf "are_numbers" "are_numbers" (defArgs (topS 11)) (defBody (topS 11)) (defScope (topS 11)) .none kV doc pm an cdv ct) ⟨us, []⟩ = pure ((["thing"] : List Str).zip us) :=
  match us, hl with | [_], _ => rfl
theorem hb13 (kV doc pm : Value) (an : Option Addr) (cdv ct : Value) (us : List Value) (hl : us.length = (["thing"] : List Str).length) : bindArgs (PySem.W.fnOf "is_pair" "is_pair" (defArgs (topS 13)) (defBody (topS 13)) (defScope (topS 13)) .none kV doc pm an cdv ct) ⟨us, []⟩ = pure ((["thing"] : List Str).zip us) :=
  match us, hl with | [_], _ => rfl
theorem hb14 (kV doc pm : Value) (an : Option Addr) (cdv ct : Value) (us : List Value) (hl : us.length = (["many", "number", "thing"] : List Str).length) : bindArgs (PySem.W.fnOf "is_tie_of" "is_tie_of" (defArgs (topS 14)) (defBody (topS 14)) (defScope (topS 14)) .none kV doc pm an cdv ct) ⟨us, []⟩ = pure ((["many", "number", "thing"] : List Str).zip us) :=
  match us, hl with | [_, _, _], _ => rfl
theorem hb15 (kV doc pm : Value) (an : Option Addr) (cdv ct : Value) (us : List Value) (hl : us.length = (["marks", "many", "tie"] : List Str).length) : bindArgs (PySem.W.fnOf "marked" "marked" (defArgs (topS 15)) (defBody (topS 15)) (defScope (topS 15)) .none kV doc pm an cdv ct) ⟨us, []⟩ = pure ((["marks", "many", "tie"] : List Str).zip us) :=
  match us, hl with | [_, _, _], _ => rfl
theorem hb16 (kV doc pm : Value) (an : Option Addr) (cdv ct : Value) (us : List Value) (hl : us.length = (["marks", "many", "ties"] : List Str).length) : bindArgs (PySem.W.fnOf "grown_from" "grown_from" (defArgs (topS 16)) (defBody (topS 16)) (defScope (topS 16)) .none kV doc pm an cdv ct) ⟨us, []⟩ = pure ((["marks", "many", "ties"] : List Str).zip us) :=
  match us, hl with | [_, _, _], _ => rfl
theorem hb17 (kV doc pm : Value) (an : Option Addr) (cdv ct : Value) (us : List Value) (hl : us.length = (["many", "number", "ties"] : List Str).length) : bindArgs (PySem.W.fnOf "hangs_in" "hangs_in" (defArgs (topS 17)) (defBody (topS 17)) (defScope (topS 17)) .none kV doc pm an cdv ct) ⟨us, []⟩ = pure ((["many", "number", "ties"] : List Str).zip us) :=
  match us, hl with | [_, _, _], _ => rfl
theorem hb18 (kV doc pm : Value) (an : Option Addr) (cdv ct : Value) (us : List Value) (hl : us.length = (["thing"] : List Str).length) : bindArgs (PySem.W.fnOf "is_web" "is_web" (defArgs (topS 18)) (defBody (topS 18)) (defScope (topS 18)) .none kV doc pm an cdv ct) ⟨us, []⟩ = pure ((["thing"] : List Str).zip us) :=
  match us, hl with | [_], _ => rfl
theorem hb19 (kV doc pm : Value) (an : Option Addr) (cdv ct : Value) (us : List Value) (hl : us.length = (["web"] : List Str).length) : bindArgs (PySem.W.fnOf "sure_web" "sure_web" (defArgs (topS 19)) (defBody (topS 19)) (defScope (topS 19)) .none kV doc pm an cdv ct) ⟨us, []⟩ = pure ((["web"] : List Str).zip us) :=
  match us, hl with | [_], _ => rfl
theorem hb20 (kV doc pm : Value) (an : Option Addr) (cdv ct : Value) (us : List Value) (hl : us.length = (["side"] : List Str).length) : bindArgs (PySem.W.fnOf "sure_side" "sure_side" (defArgs (topS 20)) (defBody (topS 20)) (defScope (topS 20)) .none kV doc pm an cdv ct) ⟨us, []⟩ = pure ((["side"] : List Str).zip us) :=
  match us, hl with | [_], _ => rfl
theorem hb21 (kV doc pm : Value) (an : Option Addr) (cdv ct : Value) (us : List Value) (hl : us.length = (["web", "side", "lot"] : List Str).length) : bindArgs (PySem.W.fnOf "neighbours_in" "neighbours_in" (defArgs (topS 21)) (defBody (topS 21)) (defScope (topS 21)) .none kV doc pm an cdv ct) ⟨us, []⟩ = pure ((["web", "side", "lot"] : List Str).zip us) :=
  match us, hl with | [_, _, _], _ => rfl
theorem hb22 (kV doc pm : Value) (an : Option Addr) (cdv ct : Value) (us : List Value) (hl : us.length = (["web", "side", "lot"] : List Str).length) : bindArgs (PySem.W.fnOf "pieces_in" "pieces_in" (defArgs (topS 22)) (defBody (topS 22)) (defScope (topS 22)) .none kV doc pm an cdv ct) ⟨us, []⟩ = pure ((["web", "side", "lot"] : List Str).zip us) :=
  match us, hl with | [_, _, _], _ => rfl
theorem hb23 (kV doc pm : Value) (an : Option Addr) (cdv ct : Value) (us : List Value) (hl : us.length = (["web", "side", "lot"] : List Str).length) : bindArgs (PySem.W.fnOf "rank_in" "rank_in" (defArgs (topS 23)) (defBody (topS 23)) (defScope (topS 23)) .none kV doc pm an cdv ct) ⟨us, []⟩ = pure ((["web", "side", "lot"] : List Str).zip us) :=
  match us, hl with | [_, _, _], _ => rfl
theorem hb26 (kV doc pm : Value) (an : Option Addr) (cdv ct : Value) (us : List Value) (hl : us.length = (["web", "side"] : List Str).length) : bindArgs (PySem.W.fnOf "ranks_by" "ranks_by" (defArgs (topS 26)) (defBody (topS 26)) (defScope (topS 26)) .none kV doc pm an cdv ct) ⟨us, []⟩ = pure ((["web", "side"] : List Str).zip us) :=
  match us, hl with | [_, _], _ => rfl
theorem hb27 (kV doc pm : Value) (an : Option Addr) (cdv ct : Value) (us : List Value) (hl : us.length = (["ranks", "told", "place"] : List Str).length) : bindArgs (PySem.W.fnOf "numbers_next" "numbers_next" (defArgs (topS 27)) (defBody (topS 27)) (defScope (topS 27)) .none kV doc pm an cdv ct) ⟨us, []⟩ = pure ((["ranks", "told", "place"] : List Str).zip us) :=
  match us, hl with | [_, _, _], _ => rfl
theorem hb28 (kV doc pm : Value) (an : Option Addr) (cdv ct : Value) (us : List Value) (hl : us.length = (["web", "side"] : List Str).length) : bindArgs (PySem.W.fnOf "rows_in" "rows_in" (defArgs (topS 28)) (defBody (topS 28)) (defScope (topS 28)) .none kV doc pm an cdv ct) ⟨us, []⟩ = pure ((["web", "side"] : List Str).zip us) :=
  match us, hl with | [_, _], _ => rfl
theorem hb30 (kV doc pm : Value) (an : Option Addr) (cdv ct : Value) (us : List Value) (hl : us.length = (["web", "side"] : List Str).length) : bindArgs (PySem.W.fnOf "many_rows" "many_rows" (defArgs (topS 30)) (defBody (topS 30)) (defScope (topS 30)) .none kV doc pm an cdv ct) ⟨us, []⟩ = pure ((["web", "side"] : List Str).zip us) :=
  match us, hl with | [_, _], _ => rfl
theorem hb31 (kV doc pm : Value) (an : Option Addr) (cdv ct : Value) (us : List Value) (hl : us.length = (["web", "side", "limits"] : List Str).length) : bindArgs (PySem.W.fnOf "sure_limits" "sure_limits" (defArgs (topS 31)) (defBody (topS 31)) (defScope (topS 31)) .none kV doc pm an cdv ct) ⟨us, []⟩ = pure ((["web", "side", "limits"] : List Str).zip us) :=
  match us, hl with | [_, _, _], _ => rfl
theorem hb32 (kV doc pm : Value) (an : Option Addr) (cdv ct : Value) (us : List Value) (hl : us.length = (["web", "side", "limits"] : List Str).length) : bindArgs (PySem.W.fnOf "many_below" "many_below" (defArgs (topS 32)) (defBody (topS 32)) (defScope (topS 32)) .none kV doc pm an cdv ct) ⟨us, []⟩ = pure ((["web", "side", "limits"] : List Str).zip us) :=
  match us, hl with | [_, _, _], _ => rfl
theorem hb33 (kV doc pm : Value) (an : Option Addr) (cdv ct : Value) (us : List Value) (hl : us.length = (["web", "side", "limits"] : List Str).length) : bindArgs (PySem.W.fnOf "many_above" "many_above" (defArgs (topS 33)) (defBody (topS 33)) (defScope (topS 33)) .none kV doc pm an cdv ct) ⟨us, []⟩ = pure ((["web", "side", "limits"] : List Str).zip us) :=
  match us, hl with | [_, _, _], _ => rfl
theorem hb35 (kV doc pm : Value) (an : Option Addr) (cdv ct : Value) (us : List Value) (hl : us.length = (["_law_script", "_law_k"] : List Str).length) : bindArgs (PySem.W.fnOf "_law_box" "_law_box" (defArgs (topS 35)) (defBody (topS 35)) (defScope (topS 35)) .none kV doc pm an cdv ct) ⟨us, []⟩ = pure ((["_law_script", "_law_k"] : List Str).zip us) :=
  match us, hl with | [_, _], _ => rfl
theorem hb36 (kV doc pm : Value) (an : Option Addr) (cdv ct : Value) (us : List Value) (hl : us.length = (["_law_tin", "_law_below_so"] : List Str).length) : bindArgs (PySem.W.fnOf "_law_take" "_law_take" (defArgs (topS 36)) (defBody (topS 36)) (defScope (topS 36)) .none kV doc pm an cdv ct) ⟨us, []⟩ = pure ((["_law_tin", "_law_below_so"] : List Str).zip us) :=
  match us, hl with | [_, _], _ => rfl
theorem hb37 (kV doc pm : Value) (an : Option Addr) (cdv ct : Value) (us : List Value) (hl : us.length = (["_law_script", "_law_most_so"] : List Str).length) : bindArgs (PySem.W.fnOf "_law_cells" "_law_cells" (defArgs (topS 37)) (defBody (topS 37)) (defScope (topS 37)) .none kV doc pm an cdv ct) ⟨us, []⟩ = pure ((["_law_script", "_law_most_so"] : List Str).zip us) :=
  match us, hl with | [_, _], _ => rfl
theorem hb38 (kV doc pm : Value) (an : Option Addr) (cdv ct : Value) (us : List Value) (hl : us.length = (["_law_tin", "_law_goods_so"] : List Str).length) : bindArgs (PySem.W.fnOf "_law_of" "_law_of" (defArgs (topS 38)) (defBody (topS 38)) (defScope (topS 38)) .none kV doc pm an cdv ct) ⟨us, []⟩ = pure ((["_law_tin", "_law_goods_so"] : List Str).zip us) :=
  match us, hl with | [_, _], _ => rfl
theorem hb39 (kV doc pm : Value) (an : Option Addr) (cdv ct : Value) (us : List Value) (hl : us.length = (["_law_tin", "_law_goods_so", "_law_count_so"] : List Str).length) : bindArgs (PySem.W.fnOf "_law_pick" "_law_pick" (defArgs (topS 39)) (defBody (topS 39)) (defScope (topS 39)) .none kV doc pm an cdv ct) ⟨us, []⟩ = pure ((["_law_tin", "_law_goods_so", "_law_count_so"] : List Str).zip us) :=
  match us, hl with | [_, _, _], _ => rfl
theorem hb40 (kV doc pm : Value) (an : Option Addr) (cdv ct : Value) (us : List Value) (hl : us.length = (["_law_matter"] : List Str).length) : bindArgs (PySem.W.fnOf "_law_lists" "_law_lists" (defArgs (topS 40)) (defBody (topS 40)) (defScope (topS 40)) .none kV doc pm an cdv ct) ⟨us, []⟩ = pure ((["_law_matter"] : List Str).zip us) :=
  match us, hl with | [_], _ => rfl
theorem hb41 (kV doc pm : Value) (an : Option Addr) (cdv ct : Value) (us : List Value) (hl : us.length = (["_law_got", "_law_due"] : List Str).length) : bindArgs (PySem.W.fnOf "_law_same" "_law_same" (defArgs (topS 41)) (defBody (topS 41)) (defScope (topS 41)) .none kV doc pm an cdv ct) ⟨us, []⟩ = pure ((["_law_got", "_law_due"] : List Str).zip us) :=
  match us, hl with | [_, _], _ => rfl
theorem hb42 (kV doc pm : Value) (an : Option Addr) (cdv ct : Value) (us : List Value) (hl : us.length = (["_law_net_here"] : List Str).length) : bindArgs (PySem.W.fnOf "_law_all_trees" "_law_all_trees" (defArgs (topS 42)) (defBody (topS 42)) (defScope (topS 42)) .none kV doc pm an cdv ct) ⟨us, []⟩ = pure ((["_law_net_here"] : List Str).zip us) :=
  match us, hl with | [_], _ => rfl
theorem hb43 (kV doc pm : Value) (an : Option Addr) (cdv ct : Value) (us : List Value) (hl : us.length = (["_law_net_here", "_law_boughs", "_law_half"] : List Str).length) : bindArgs (PySem.W.fnOf "_law_line" "_law_line" (defArgs (topS 43)) (defBody (topS 43)) (defScope (topS 43)) .none kV doc pm an cdv ct) ⟨us, []⟩ = pure ((["_law_net_here", "_law_boughs", "_law_half"] : List Str).zip us) :=
  match us, hl with | [_, _, _], _ => rfl
theorem hb44 (kV doc pm : Value) (an : Option Addr) (cdv ct : Value) (us : List Value) (hl : us.length = (["_law_tin", "_law_most_so"] : List Str).length) : bindArgs (PySem.W.fnOf "_law_net" "_law_net" (defArgs (topS 44)) (defBody (topS 44)) (defScope (topS 44)) .none kV doc pm an cdv ct) ⟨us, []⟩ = pure ((["_law_tin", "_law_most_so"] : List Str).zip us) :=
  match us, hl with | [_, _], _ => rfl
theorem hb45 (kV doc pm : Value) (an : Option Addr) (cdv ct : Value) (us : List Value) (hl : us.length = (["_law_net_here"] : List Str).length) : bindArgs (PySem.W.fnOf "_law_both_lines" "_law_both_lines" (defArgs (topS 45)) (defBody (topS 45)) (defScope (topS 45)) .none kV doc pm an cdv ct) ⟨us, []⟩ = pure ((["_law_net_here"] : List Str).zip us) :=
  match us, hl with | [_], _ => rfl
theorem hb46 (kV doc pm : Value) (an : Option Addr) (cdv ct : Value) (us : List Value) (hl : us.length = ([] : List Str).length) : bindArgs (PySem.W.fnOf "_law_by_hand_right" "_law_by_hand_right" (defArgs (topS 46)) (defBody (topS 46)) (defScope (topS 46)) .none kV doc pm an cdv ct) ⟨us, []⟩ = pure (([] : List Str).zip us) :=
  match us, hl with | [], _ => rfl
section
variable {P : Program} {w : World} {K : PySem.W.Frag} {mg : Str → Option Value} {base : Heap}
theorem all_law {f : Addr} {fd : FuncData} (S : Srcs K mg) (B : Blt mg) (hLi : ∃ t, mg "LISTED" = some (.int 2000 t)) (F : Fun K "law" "law" st_law f fd) : FnOk P w K mg base CX0 9 f fd ["_law_script"] (sp_law K) := by
  have c4 : Cal P w K mg base 1 "is_number" ["thing"] sp_is_number := ok_is_number S.s4 B
  have c5 := ok_is_from S.s5 c4
  have c6 := ok_is_within S.s6 c4
  have c7 : Cal P w K mg base 1 "is_long" ["thing", "length"] (sp_is_long K) := ok_is_long S.s7 B
  have c8 : Cal P w K mg base 4 "tupled" ["value"] (sp_tupled K 4) := ok_tupled S.s8 B 4
  have c9 : Cal P w K mg base 1 "ascends" ["row"] (sp_ascends K) := ok_ascends S.s9 B
  have c10 : Cal P w K mg base 1 "set_of" ["row"] (sp_set_of K) := ok_set_of S.s10 B
  have c11 : Cal P w K mg base 2 "are_numbers" ["thing"] (sp_are_numbers K) := ok_are_numbers S.s11 B c4
  have c13 := ok_is_pair S.s13 B c7 c11
  have c14 := ok_is_tie_of S.s14 c13
  have c15 : Cal P w K mg base 1 "marked" ["marks", "many", "tie"] (sp_marked K) := ok_marked S.s15 B
  have c16 := ok_grown_from S.s16 c15
  have c17 := ok_hangs_in S.s17 B c16
  have c18 := ok_is_web S.s18 B c7 c5 c14 c9 c17
  have c19 := ok_sure_web S.s19 c8 c18
  have c20 := ok_sure_side S.s20 c6
  have c21 := ok_nb S.s21 B c10
  have c22 := ok_pc S.s22 B c16
  have c23 := ok_rank S.s23 B c21 c22
  have c26 := ok_ranks S.s26 B c23
  have c27 : Cal P w K mg base 1 "numbers_next" ["ranks", "told", "place"] sp_next := ok_next S.s27 B
  have c28 := ok_rows S.s28 B hLi c26 c27
  have c30 := ok_mrows S.s30 B c19 c20 c28
  have c31 := ok_lim S.s31 B c8 c4
  have c32 := ok_below S.s32 B c19 c20 c28 c31
  have c33 := ok_above S.s33 B c19 c20 c28 c31
  have c35 : Cal P w K mg base 1 "_law_box" ["_law_script", "_law_k"] (sp_box K) := ok_box S.s35 B
  have c36 : Cal P w K mg base 1 "_law_take" ["_law_tin", "_law_below_so"] sp_take := ok_take S.s36 B
  have c37 : Cal P w K mg base 1 "_law_cells" ["_law_script", "_law_most_so"] (sp_cells K) := ok_cells S.s37 B
  have c38 := ok_of S.s38 B c36
  have c39 := ok_pick S.s39 B c36
  have c40 : Cal P w K mg base 4 "_law_lists" ["_law_matter"] (sp_lists K 4) := ok_lists S.s40 B 4
  have c41 : Cal P w K mg base 1 "_law_same" ["_law_got", "_law_due"] sp_sameI := ok_sameI S.s41 B
  have c41L := ok_sameL S.s41 B c41
  have c42 : Cal P w K mg base 1 "_law_all_trees" ["_law_net_here"] (sp_trees K) := ok_trees S.s42 B
  have c43 : Cal P w K mg base 1 "_law_line" ["_law_net_here", "_law_boughs", "_law_half"] (sp_line K) := ok_line S.s43 B
  have c44 := ok_net S.s44 B c36 c39 c38
  have c45 := ok_both S.s45 B c42 c43
  have c46 := ok_hand S.s46 c32 c33 c40 c41L
  exact ok_law F B c46 c35 c37 c44 c36 c45 c32 c33 c40 c41L c30
end
theorem all_mk {l : PySem.W.OpenLaw} {w : World} {K : PySem.W.Frag} {h : Heap} {mg : Str → Option Value} {fa f2 : Addr} (X : K.In h) (G : h.Ns mainGlobals mg) (hfa : mg "law" = some (.ref fa)) (S : Srcs K mg) (B : Blt mg) {tL : Tok} (aL : PySem.W.nsIn K mainGlobals "LISTED" = some (some (.int 2000 tL)))
    {od2 an2 : Option Addr} {sl2 : Array (Option Value)} {oc2 kV2 dc2 pm2 cd2 ct2 : Value}
    (a2 : PySem.W.nsIn K mainGlobals "law" = some (some (.ref f2))) (l2 : K.lookup f2 = some ⟨oc2, od2, .func (PySem.W.fnOf "law" "law" (defArgs st_law) (defBody st_law) (defScope st_law) .none kV2 dc2 pm2 an2 cd2 ct2), sl2⟩) (c2 : PySem.W.codeIn K cd2 "law" = true) (k2 : PySem.W.keepIn K (.ref f2) = true) :
    ∃ fd : FuncData, (∀ (s : Shared) (v : Value), BindsTo s fd ⟨[v], []⟩ [("_law_script", v)]) ∧ ∀ base : Heap, K.In base → base.Ns mainGlobals mg → FnOk l.prog w K mg base CX0 9 fa fd ["_law_script"] (sp_law K) := by
  have e := hfa.symm.trans (PySem.W.mg_of X G a2)
  cases e
  have F2 := fun_mk (st := st_law) l2 c2 k2
  exact ⟨PySem.W.fnOf "law" "law" (defArgs st_law) (defBody st_law) (defScope st_law) .none kV2 dc2 pm2 an2 cd2 ct2, fun s v => .of_eq rfl, fun base _ _ => all_law S B ⟨_, PySem.W.mg_of X G aL⟩ F2⟩
end Hk

set_option Elab.async false
set_option linter.all false
set_option maxRecDepth 100000
open PySem PySem.W PyProof.Rows
set_option maxHeartbeats 0 in
theorem PySem.Challenge.cw_eachhandtied_k46_whole_within_limits_holds : PySem.Challenge.rw_eachhandtied_k46_whole_within_limits.Holds := by
  w_on; o_law; k_head; (case hw => w_witness2)
  k_fill
  refine L2.walk_of (l := PySem.Challenge.rw_eachhandtied_k46_whole_within_limits) (n := 63) (k := 9) (x := "_law_script") (CX := fun _ => L2.CX0) (sp := fun w => Hk.sp_law _) rfl (by decide) rfl ⟨rfl, by decide, by decide⟩ (fun w h Y => PySem.W.kIn_of Y) ?F (fun _ _ a ns hl _ hS => ⟨a, ns, rfl, hS, hl, fun _ => rfl⟩) (fun _ _ _ _ _ h => h)
  case F =>
    intro w mg fa h KX G hmg
    refine' Hk.all_mk KX G hmg ?S ?B ?aL ?a2 ?l2 ?c2 ?k2
    case S =>
      constructor
      case s4 =>
        refine' Hk.src_mk KX G Hk.hb4 ?a ?l ?c ?k
        (case a => k_is); (case l => k_is); (case c => k_is); (case k => k_is)
      case s5 =>
        refine' Hk.src_mk KX G Hk.hb5 ?a ?l ?c ?k
        (case a => k_is); (case l => k_is); (case c => k_is); (case k => k_is)
      case s6 =>
        refine' Hk.src_mk KX G Hk.hb6 ?a ?l ?c ?k
        (case a => k_is); (case l => k_is); (case c => k_is); (case k => k_is)
      case s7 =>
        refine' Hk.src_mk KX G Hk.hb7 ?a ?l ?c ?k
        (case a => k_is); (case l => k_is); (case c => k_is); (case k => k_is)
      case s8 =>
        refine' Hk.src_mk KX G Hk.hb8 ?a ?l ?c ?k
        (case a => k_is); (case l => k_is); (case c => k_is); (case k => k_is)
      case s9 =>
        refine' Hk.src_mk KX G Hk.hb9 ?a ?l ?c ?k
        (case a => k_is); (case l => k_is); (case c => k_is); (case k => k_is)
      case s10 =>
        refine' Hk.src_mk KX G Hk.hb10 ?a ?l ?c ?k
        (case a => k_is); (case l => k_is); (case c => k_is); (case k => k_is)
      case s11 =>
        refine' Hk.src_mk KX G Hk.hb11 ?a ?l ?c ?k
        (case a => k_is); (case l => k_is); (case c => k_is); (case k => k_is)
      case s13 =>
        refine' Hk.src_mk KX G Hk.hb13 ?a ?l ?c ?k
        (case a => k_is); (case l => k_is); (case c => k_is); (case k => k_is)
      case s14 =>
        refine' Hk.src_mk KX G Hk.hb14 ?a ?l ?c ?k
        (case a => k_is); (case l => k_is); (case c => k_is); (case k => k_is)
      case s15 =>
        refine' Hk.src_mk KX G Hk.hb15 ?a ?l ?c ?k
        (case a => k_is); (case l => k_is); (case c => k_is); (case k => k_is)
      case s16 =>
        refine' Hk.src_mk KX G Hk.hb16 ?a ?l ?c ?k
        (case a => k_is); (case l => k_is); (case c => k_is); (case k => k_is)
      case s17 =>
        refine' Hk.src_mk KX G Hk.hb17 ?a ?l ?c ?k
        (case a => k_is); (case l => k_is); (case c => k_is); (case k => k_is)
      case s18 =>
        refine' Hk.src_mk KX G Hk.hb18 ?a ?l ?c ?k
        (case a => k_is); (case l => k_is); (case c => k_is); (case k => k_is)
      case s19 =>
        refine' Hk.src_mk KX G Hk.hb19 ?a ?l ?c ?k
        (case a => k_is); (case l => k_is); (case c => k_is); (case k => k_is)
      case s20 =>
        refine' Hk.src_mk KX G Hk.hb20 ?a ?l ?c ?k
        (case a => k_is); (case l => k_is); (case c => k_is); (case k => k_is)
      case s21 =>
        refine' Hk.src_mk KX G Hk.hb21 ?a ?l ?c ?k
        (case a => k_is); (case l => k_is); (case c => k_is); (case k => k_is)
      case s22 =>
        refine' Hk.src_mk KX G Hk.hb22 ?a ?l ?c ?k
        (case a => k_is); (case l => k_is); (case c => k_is); (case k => k_is)
      case s23 =>
        refine' Hk.src_mk KX G Hk.hb23 ?a ?l ?c ?k
        (case a => k_is); (case l => k_is); (case c => k_is); (case k => k_is)
      case s26 =>
        refine' Hk.src_mk KX G Hk.hb26 ?a ?l ?c ?k
        (case a => k_is); (case l => k_is); (case c => k_is); (case k => k_is)
      case s27 =>
        refine' Hk.src_mk KX G Hk.hb27 ?a ?l ?c ?k
        (case a => k_is); (case l => k_is); (case c => k_is); (case k => k_is)
      case s28 =>
        refine' Hk.src_mk KX G Hk.hb28 ?a ?l ?c ?k
        (case a => k_is); (case l => k_is); (case c => k_is); (case k => k_is)
      case s30 =>
        refine' Hk.src_mk KX G Hk.hb30 ?a ?l ?c ?k
        (case a => k_is); (case l => k_is); (case c => k_is); (case k => k_is)
      case s31 =>
        refine' Hk.src_mk KX G Hk.hb31 ?a ?l ?c ?k
        (case a => k_is); (case l => k_is); (case c => k_is); (case k => k_is)
      case s32 =>
        refine' Hk.src_mk KX G Hk.hb32 ?a ?l ?c ?k
        (case a => k_is); (case l => k_is); (case c => k_is); (case k => k_is)
      case s33 =>
        refine' Hk.src_mk KX G Hk.hb33 ?a ?l ?c ?k
        (case a => k_is); (case l => k_is); (case c => k_is); (case k => k_is)
      case s35 =>
        refine' Hk.src_mk KX G Hk.hb35 ?a ?l ?c ?k
        (case a => k_is); (case l => k_is); (case c => k_is); (case k => k_is)
      case s36 =>
        refine' Hk.src_mk KX G Hk.hb36 ?a ?l ?c ?k
        (case a => k_is); (case l => k_is); (case c => k_is); (case k => k_is)
      case s37 =>
        refine' Hk.src_mk KX G Hk.hb37 ?a ?l ?c ?k
        (case a => k_is); (case l => k_is); (case c => k_is); (case k => k_is)
      case s38 =>
        refine' Hk.src_mk KX G Hk.hb38 ?a ?l ?c ?k
        (case a => k_is); (case l => k_is); (case c => k_is); (case k => k_is)
      case s39 =>
        refine' Hk.src_mk KX G Hk.hb39 ?a ?l ?c ?k
        (case a => k_is); (case l => k_is); (case c => k_is); (case k => k_is)
      case s40 =>
        refine' Hk.src_mk KX G Hk.hb40 ?a ?l ?c ?k
        (case a => k_is); (case l => k_is); (case c => k_is); (case k => k_is)
      case s41 =>
        refine' Hk.src_mk KX G Hk.hb41 ?a ?l ?c ?k
        (case a => k_is); (case l => k_is); (case c => k_is); (case k => k_is)
      case s42 =>
        refine' Hk.src_mk KX G Hk.hb42 ?a ?l ?c ?k
        (case a => k_is); (case l => k_is); (case c => k_is); (case k => k_is)
      case s43 =>
        refine' Hk.src_mk KX G Hk.hb43 ?a ?l ?c ?k
        (case a => k_is); (case l => k_is); (case c => k_is); (case k => k_is)
      case s44 =>
        refine' Hk.src_mk KX G Hk.hb44 ?a ?l ?c ?k
        (case a => k_is); (case l => k_is); (case c => k_is); (case k => k_is)
      case s45 =>
        refine' Hk.src_mk KX G Hk.hb45 ?a ?l ?c ?k
        (case a => k_is); (case l => k_is); (case c => k_is); (case k => k_is)
      case s46 =>
        refine' Hk.src_mk KX G Hk.hb46 ?a ?l ?c ?k
        (case a => k_is); (case l => k_is); (case c => k_is); (case k => k_is)
    case B =>
      constructor
      case isinstance =>
        refine' PySem.W.mg_none_of KX G ?z
        (case z => k_is)
      case int =>
        refine' PySem.W.mg_none_of KX G ?z
        (case z => k_is)
      case bool =>
        refine' PySem.W.mg_none_of KX G ?z
        (case z => k_is)
      case str =>
        refine' PySem.W.mg_none_of KX G ?z
        (case z => k_is)
      case tuple =>
        refine' PySem.W.mg_none_of KX G ?z
        (case z => k_is)
      case list =>
        refine' PySem.W.mg_none_of KX G ?z
        (case z => k_is)
      case len =>
        refine' PySem.W.mg_none_of KX G ?z
        (case z => k_is)
      case all =>
        refine' PySem.W.mg_none_of KX G ?z
        (case z => k_is)
      case range =>
        refine' PySem.W.mg_none_of KX G ?z
        (case z => k_is)
      case sorted =>
        refine' PySem.W.mg_none_of KX G ?z
        (case z => k_is)
      case set =>
        refine' PySem.W.mg_none_of KX G ?z
        (case z => k_is)
      case zip =>
        refine' PySem.W.mg_none_of KX G ?z
        (case z => k_is)
      case enumerate =>
        refine' PySem.W.mg_none_of KX G ?z
        (case z => k_is)
      case min =>
        refine' PySem.W.mg_none_of KX G ?z
        (case z => k_is)
      case max =>
        refine' PySem.W.mg_none_of KX G ?z
        (case z => k_is)
      case abs =>
        refine' PySem.W.mg_none_of KX G ?z
        (case z => k_is)
    (case aL => k_is); (case a2 => k_is); (case l2 => k_is); (case c2 => k_is); (case k2 => k_is)

